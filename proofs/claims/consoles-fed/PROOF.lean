import PyProof.Rows.All
import Wide.All
import OpenK.AllK
import Wide.FinOn
import HandS.ForMost
import HandS.More
import HandS.TupAny
import HandS.ListItems
import HandS.IsInst
import HandS.StrMore
import HandS.Star
import HandS.Defaults
import HandS.HeadHook3
import PyProof.DictUpdate
import HandS.Iter
import PyProof.EnumMake
import KE.GoesMore
import PyProof.RulesMatch
import HandS.Exc
import HandS.Property
import HandS.Style
import HandS.GenList
import HandS.Head0
import HandS.Head1
import HandS.Head2
import KE.KStateDown
import Wide.Once
import HandS.NamedTupGet
import KE.KAssignIn
import PyProof.Rows.RegReprOcc
import PyProof.ReprRoads
import PyProof.ReprLen
import HandS.HeadHook4
import HandS.HeadEnd
import PySem.Challenge.RW_replinput_k66_whole_consoles_fed_with_li
set_option Elab.async false
set_option linter.all false
set_option maxRecDepth 100000
set_option maxHeartbeats 0
namespace Rp
open PySem PySem.Spec PyProof.Rows L2
/-- a sign's code: always a Unicode code -/
abbrev Ch := Fin 1114112
inductive D where
  | non | bl (b : Bool) | int (i : Int) | str (s : List Ch)
  | tup (xs : List D) | lst (xs : List D) | dic (ks : List (List Ch)) (vs : List D) | ins (c : Nat) (fs : List D)
  deriving Inhabited
def toS (s : List Ch) : Str := ⟨(s.map (·.val)).toArray⟩
inductive Op where
  | add | sub | mul | mod | fdv | eq | ne | lt | le | gt | ge | isin | notin
  deriving DecidableEq
inductive Fn1 where
  | len | any | all | isStr | isInt | isBool | list | dict
  deriving DecidableEq
inductive Mt1 where
  | startswith | strip | split | join
  deriving DecidableEq
mutual
inductive C where
  | var (i : Nat) | cst (d : D) | glo (j : Nat) | kget (j : Nat) (k : C)
  | tup (es : CL) | lst (es : CL) | bin (o : Op) (a b : C) | cmp (o : Op) (a b : C) | isN (a : C) | notN (a : C) | chain (o1 o2 : Op) (a b c : C)
  | and (a b : C) | or (a b : C) | not (a : C) | ite (t a b : C)
  | attr (a : C) (i : Nat) | ix (a b : C) | slice (a : C) (lo hi : CO) | neg (a : C)
  | call (f : Nat) (es : CL) | meth (f : Nat) (o : C) (es : CL) | new (es : CL)
  | f1 (f : Fn1) (a : C) | m1 (m : Mt1) (a b : C) | dget (a k d : C) | cdic (ks vs : List (List Ch)) | items (a : C) | dstar (a : C) (ks vs : List (List Ch))
  | lcomp (i : Nat) (it : C) (t : CO) (e : C)
inductive CL where
  | nil | cons (c : C) (r : CL) | star (c : C) (r : CL)
inductive CO where
  | none | some (c : C)
end
mutual
inductive S where
  | set (i : Nat) (e : C) | sets (is : List Nat) (e : C) | par (i j : Nat) (a b : C) | iff (t : C) (a b : SL) | ret (e : C) | whil (t : C) (b : SL)
  | mtch (e : C) (cs : ML) | pass | never | forR (i : Nat) (n : C) (b : SL) | forE (i j : Nat) (e : C) (b : SL)
inductive SL where
  | nil | cons (s : S) (r : SL)
inductive ML where
  | nil | cons (ps : List (List Ch)) (b : SL) (r : ML)
end
abbrev Ft := Nat → List D → Option D
abbrev Ev := List (Option D)
/-- the module's constants, tables (a program's own) -/
structure Gt where
  glo : Nat → Option D
  tab : Nat → List (List Ch) × List D
  fields : Nat
/-- behind a statement: the names' values, or what is returned -/
abbrev Out := Sum Ev D
def forR (i : Nat) (b : Ev → Option Out) : Nat → Nat → Ev → Option Out
  | 0, _, ρ => some (.inl ρ)
  | n + 1, k, ρ => match b (ρ.set i (some (.int (k : Int)))) with
    | some (.inl ρ') => forR i b n (k + 1) ρ'
    | some (.inr d) => some (.inr d)
    | none => none
def forE (i j : Nat) (b : Ev → Option Out) : List Ch → Nat → Ev → Option Out
  | [], _, ρ => some (.inl ρ)
  | c :: cs, k, ρ => match b ((ρ.set i (some (.int (k : Int)))).set j (some (.str [c]))) with
    | some (.inl ρ') => forE i j b cs (k + 1) ρ'
    | some (.inr d) => some (.inr d)
    | none => none
/-- a def: how many parameters (without the star), the last ones' defaults, a star, how many names, its body -/
structure Fn where
  n : Nat
  dfl : List D
  star : Bool
  slots : Nat
  body : SL
end Rp
namespace Rp
open PySem PySem.Spec PyProof.Rows L2
/-- the names of a program: its defs, the class's methods, constants, tables, the class, its fields -/
structure Nm where
  fid : List (Str × Nat)
  mid : List (Str × Nat)
  gid : List (Str × Nat)
  tid : List (Str × Nat)
  cls : Str
  fld : List Str
end Rp
namespace Rp
open PySem PySem.Spec PyProof.Rows L2
def top (i : Nat) : Stmt := PySem.Challenge.pw_replinput_k66_whole_consoles_fed_with_li.main.body.getD i (.Pass ⟨0, 0, 0, 0⟩)
def nm : Nm := ⟨[(("consists_of" : Str), 1), (("is_line" : Str), 2), (("is_text" : Str), 3), (("with_clauses" : Str), 4), (("after_line" : Str), 5), (("after_empty_line" : Str), 6), (("line_begun" : Str), 7), (("small_begun" : Str), 8), (("header_begun" : Str), 9), (("after_word" : Str), 10), (("may_assign" : Str), 11), (("after_short" : Str), 12), (("after_long" : Str), 13), (("after_template" : Str), 14), (("after_operator" : Str), 15), (("after_word_sign" : Str), 16), (("after_number" : Str), 17), (("after_quote" : Str), 18), (("after_token" : Str), 19), (("after_operand_sign" : Str), 20), (("after_comma" : Str), 21), (("after_colon" : Str), 22), (("after_done_sign" : Str), 23), (("after_code_sign" : Str), 24), (("after_start_sign" : Str), 25), (("after_plain" : Str), 26), (("next_state" : Str), 27), (("state_behind" : Str), 28), (("state_of" : Str), 29), (("is_entry_state" : Str), 30), (("state_verdict" : Str), 31), (("is_index" : Str), 32), (("is_entry" : Str), 33), (("is_count" : Str), 34), (("_law_mixed" : Str), 35), (("_law_primary_end" : Str), 36), (("_law_operand" : Str), 37), (("_law_end_of" : Str), 38), (("_law_behind" : Str), 39), (("_law_ended" : Str), 40), (("_law_begun" : Str), 41), (("_law_step" : Str), 42), (("_law_line_end" : Str), 43), (("_law_is_wordy" : Str), 44), (("_law_keywords" : Str), 45), (("_law_can" : Str), 46), (("_law_line_begun" : Str), 47), (("_law_front" : Str), 48), (("_law_code" : Str), 49), (("_law_in_text" : Str), 50), (("_law_after" : Str), 51), (("_law_after_start" : Str), 52), (("_law_run" : Str), 53), (("_law_judged" : Str), 54), (("_law_settled" : Str), 55)], [(("parts" : Str), 56), (("in_phase" : Str), 57), (("with_token" : Str), 58), (("opened" : Str), 59), (("reframed" : Str), 60), (("closed" : Str), 61), (("innermost" : Str), 62), (("is_prefix" : Str), 63)], [(("KEYWORDS" : Str), 0), (("LETTERS" : Str), 1), (("DIGITS_signs" : Str), 2), (("OTHERS" : Str), 3), (("DIGITS_states" : Str), 4), (("BINARY_WORDS" : Str), 5), (("HEADERS" : Str), 6), (("CHAINS" : Str), 7), (("DONE" : Str), 8), (("STARTS" : Str), 9), (("OPERANDS" : Str), 10), (("LINE_ENDS" : Str), 11), (("ANY_WORD" : Str), 12), (("MOST_LINES" : Str), 13), (("GREATEST" : Str), 14)], [(("CLAUSES" : Str), 0), (("CLOSERS" : Str), 1)], "State", ["levels", "goal", "frames", "phase", "token"]⟩
def s_consists_of : Stmt := top 19
def s_is_line : Stmt := top 20
def s_is_text : Stmt := top 21
def s_with_clauses : Stmt := top 35
def s_after_line : Stmt := top 36
def s_after_empty_line : Stmt := top 37
def s_line_begun : Stmt := top 38
def s_small_begun : Stmt := top 39
def s_header_begun : Stmt := top 40
def s_after_word : Stmt := top 41
def s_may_assign : Stmt := top 42
def s_after_short : Stmt := top 43
def s_after_long : Stmt := top 44
def s_after_template : Stmt := top 45
def s_after_operator : Stmt := top 46
def s_after_word_sign : Stmt := top 47
def s_after_number : Stmt := top 48
def s_after_quote : Stmt := top 49
def s_after_token : Stmt := top 50
def s_after_operand_sign : Stmt := top 51
def s_after_comma : Stmt := top 52
def s_after_colon : Stmt := top 53
def s_after_done_sign : Stmt := top 54
def s_after_code_sign : Stmt := top 55
def s_after_start_sign : Stmt := top 56
def s_after_plain : Stmt := top 57
def s_next_state : Stmt := top 58
def s_state_behind : Stmt := top 61
def s_state_of : Stmt := top 62
def s_is_entry_state : Stmt := top 63
def s_state_verdict : Stmt := top 64
def s_is_index : Stmt := top 72
def s_is_entry : Stmt := top 75
def s_is_count : Stmt := top 78
def s__law_mixed : Stmt := top 87
def s__law_primary_end : Stmt := top 89
def s__law_operand : Stmt := top 90
def s__law_end_of : Stmt := top 91
def s__law_behind : Stmt := top 92
def s__law_ended : Stmt := top 93
def s__law_begun : Stmt := top 94
def s__law_step : Stmt := top 95
def s__law_line_end : Stmt := top 96
def s__law_is_wordy : Stmt := top 97
def s__law_keywords : Stmt := top 98
def s__law_can : Stmt := top 99
def s__law_line_begun : Stmt := top 100
def s__law_front : Stmt := top 101
def s__law_code : Stmt := top 102
def s__law_in_text : Stmt := top 103
def s__law_after : Stmt := top 104
def s__law_after_start : Stmt := top 105
def s__law_run : Stmt := top 106
def s__law_judged : Stmt := top 107
def s__law_settled : Stmt := top 110
def s_parts : Stmt := inClass (top 34) 1
def s_in_phase : Stmt := inClass (top 34) 2
def s_with_token : Stmt := inClass (top 34) 3
def s_opened : Stmt := inClass (top 34) 4
def s_reframed : Stmt := inClass (top 34) 5
def s_closed : Stmt := inClass (top 34) 6
def s_innermost : Stmt := inClass (top 34) 7
def s_is_prefix : Stmt := inClass (top 34) 8
end Rp
namespace Rp
open PySem PySem.Spec PyProof.Rows L2
def g_KEYWORDS : D := (D.tup [(D.str [97, 110, 100]), (D.str [98, 114, 101, 97, 107]), (D.str [100, 101, 102]), (D.str [101, 108, 105, 102]), (D.str [101, 108, 115, 101]), (D.str [101, 120, 99, 101, 112, 116]), (D.str [102, 105, 110, 97, 108, 108, 121]), (D.str [102, 111, 114]), (D.str [105, 102]), (D.str [105, 110]), (D.str [110, 111, 116]), (D.str [111, 114]), (D.str [112, 97, 115, 115]), (D.str [114, 101, 116, 117, 114, 110]), (D.str [116, 114, 121]), (D.str [119, 104, 105, 108, 101])])
def g_LETTERS : D := (D.str [97, 98, 99, 100, 101, 102, 103, 104, 105, 106, 107, 108, 109, 110, 111, 112, 113, 114, 115, 116, 117, 118, 119, 120, 121, 122, 65, 66, 67, 68, 69, 70, 71, 72, 73, 74, 75, 76, 77, 78, 79, 80, 81, 82, 83, 84, 85, 86, 87, 88, 89, 90, 95])
def g_DIGITS_signs : D := (D.str [48, 49, 50, 51, 52, 53, 54, 55, 56, 57])
def g_OTHERS : D := (D.str [32, 33, 34, 35, 36, 38, 39, 40, 41, 42, 43, 44, 45, 46, 47, 58, 59, 60, 61, 62, 63, 64, 91, 92, 93, 94, 96, 123, 124, 125, 126])
def g_DIGITS_states : D := (D.str [48, 49, 50, 51, 52, 53, 54, 55, 56, 57])
def g_BINARY_WORDS : D := (D.tup [(D.str [97, 110, 100]), (D.str [111, 114]), (D.str [105, 110])])
def g_HEADERS : D := (D.tup [(D.str [105, 102]), (D.str [119, 104, 105, 108, 101]), (D.str [102, 111, 114]), (D.str [100, 101, 102]), (D.str [116, 114, 121])])
def g_CHAINS : D := (D.tup [(D.str [116, 97, 114, 103, 101, 116]), (D.str [99, 104, 97, 105, 110])])
def g_DONE : D := (D.tup [(D.str [116, 97, 114, 103, 101, 116]), (D.str [99, 104, 97, 105, 110]), (D.str [97, 102, 116, 101, 114]), (D.str [115, 101, 97, 108, 101, 100]), (D.str [110, 97, 109, 101, 100])])
def g_STARTS : D := (D.tup [(D.str [98, 101, 103, 105, 110]), (D.str [109, 111, 114, 101]), (D.str [115, 117, 105, 116, 101])])
def g_OPERANDS : D := (D.tup [(D.str [98, 101, 103, 105, 110]), (D.str [109, 111, 114, 101]), (D.str [115, 117, 105, 116, 101]), (D.str [109, 97, 121, 98, 101]), (D.str [111, 112, 101, 114, 97, 110, 100]), (D.str [102, 105, 114, 115, 116]), (D.str [97, 114, 103])])
def g_LINE_ENDS : D := (D.tup [(D.str [116, 97, 114, 103, 101, 116]), (D.str [99, 104, 97, 105, 110]), (D.str [97, 102, 116, 101, 114]), (D.str [115, 101, 97, 108, 101, 100]), (D.str [101, 110, 100]), (D.str [109, 97, 121, 98, 101]), (D.str [109, 111, 114, 101]), (D.str [115, 117, 105, 116, 101])])
def g_ANY_WORD : D := (D.tup [(D.str [98, 101, 103, 105, 110]), (D.str [109, 111, 114, 101]), (D.str [115, 117, 105, 116, 101]), (D.str [109, 97, 121, 98, 101]), (D.str [111, 112, 101, 114, 97, 110, 100]), (D.str [102, 105, 114, 115, 116]), (D.str [97, 114, 103]), (D.str [115, 116, 97, 116, 101, 109, 101, 110, 116]), (D.str [110, 97, 109, 101]), (D.str [99, 104, 97, 105, 110, 110, 97, 109, 101]), (D.str [100, 101, 102, 110, 97, 109, 101]), (D.str [102, 111, 114, 110, 97, 109, 101]), (D.str [101, 120, 99, 101, 112, 116, 110, 97, 109, 101]), (D.str [112, 97, 114, 97, 109])])
def g_MOST_LINES : D := (D.int 300)
def g_GREATEST : D := (D.int 100)
def t_CLAUSES : List (List Ch) × List D := ([[], [105, 102], [116, 114, 121], [101, 120, 99, 101, 112, 116]], [(D.tup []), (D.tup [(D.str [101, 108, 105, 102]), (D.str [101, 108, 115, 101])]), (D.tup [(D.str [101, 120, 99, 101, 112, 116]), (D.str [102, 105, 110, 97, 108, 108, 121])]), (D.tup [(D.str [101, 120, 99, 101, 112, 116]), (D.str [102, 105, 110, 97, 108, 108, 121])])])
def t_CLOSERS : List (List Ch) × List D := ([[40], [99], [112], [91], [105], [123, 107], [123, 118], [102]], [(D.str [41]), (D.str [41]), (D.str [41]), (D.str [93]), (D.str [93]), (D.str [125]), (D.str [125]), (D.str [125])])
def gt : Gt := ⟨fun j => match j with
  | 0 => some g_KEYWORDS
  | 1 => some g_LETTERS
  | 2 => some g_DIGITS_signs
  | 3 => some g_OTHERS
  | 4 => some g_DIGITS_states
  | 5 => some g_BINARY_WORDS
  | 6 => some g_HEADERS
  | 7 => some g_CHAINS
  | 8 => some g_DONE
  | 9 => some g_STARTS
  | 10 => some g_OPERANDS
  | 11 => some g_LINE_ENDS
  | 12 => some g_ANY_WORD
  | 13 => some g_MOST_LINES
  | 14 => some g_GREATEST
  | _ => none, fun j => match j with
  | 0 => t_CLAUSES
  | _ => t_CLOSERS, 5⟩
def b_consists_of : SL := SL.cons (S.ret (C.and (C.f1 Fn1.isStr (C.var 0)) (C.f1 Fn1.all (C.lcomp 2 (C.var 0) CO.none (C.cmp Op.isin (C.var 2) (C.var 1)))))) SL.nil
def f_consists_of : Fn := ⟨2, [], false, 3, b_consists_of⟩
def b_is_line : SL := SL.cons (S.ret (C.call 1 (CL.cons (C.var 0) (CL.cons (C.bin Op.add (C.bin Op.add (C.glo 1) (C.glo 2)) (C.glo 3)) CL.nil)))) SL.nil
def f_is_line : Fn := ⟨1, [], false, 1, b_is_line⟩
def b_is_text : SL := SL.cons (S.ret (C.call 1 (CL.cons (C.var 0) (CL.cons (C.bin Op.add (C.bin Op.add (C.bin Op.add (C.glo 1) (C.glo 2)) (C.glo 3)) (C.cst (D.str [10]))) CL.nil)))) SL.nil
def f_is_text : Fn := ⟨1, [], false, 1, b_is_text⟩
def b_with_clauses : SL := SL.cons (S.sets [2, 3, 4, 5] (C.ix (C.var 0) (C.neg (C.cst (D.int 1))))) (SL.cons (S.ret (C.tup (CL.star (C.slice (C.var 0) CO.none (CO.some (C.neg (C.cst (D.int 1))))) (CL.cons (C.tup (CL.cons (C.var 2) (CL.cons (C.var 1) (CL.cons (C.var 4) (CL.cons (C.var 5) CL.nil))))) CL.nil)))) SL.nil)
def f_with_clauses : Fn := ⟨2, [], false, 6, b_with_clauses⟩
def b_after_line : SL := SL.cons (S.iff (C.or (C.cmp Op.notin (C.attr (C.var 0) 3) (C.glo 11)) (C.cmp Op.ne (C.ix (C.attr (C.var 0) 1) (C.cst (D.int 0))) (C.cst (D.str [115, 109, 97, 108, 108])))) (SL.cons (S.ret (C.cst (D.non))) SL.nil) SL.nil) (SL.cons (S.sets [1, 2, 3, 4, 5] (C.attr (C.var 0) 1)) (SL.cons (S.iff (C.var 5) (SL.cons (S.ret (C.new (CL.cons (C.tup CL.nil) (CL.cons (C.tup (CL.cons (C.cst (D.str [100, 111, 110, 101])) CL.nil)) CL.nil)))) SL.nil) SL.nil) (SL.cons (S.set 6 (C.ite (C.cmp Op.eq (C.attr (C.var 0) 3) (C.cst (D.str [115, 117, 105, 116, 101]))) (C.tup (CL.cons (C.var 3) (CL.cons (C.var 4) CL.nil))) (C.tup CL.nil))) (SL.cons (S.ret (C.new (CL.cons (C.call 4 (CL.cons (C.attr (C.var 0) 0) (CL.cons (C.var 2) CL.nil))) (CL.cons (C.tup (CL.cons (C.cst (D.str [115, 116, 97, 114, 116])) (CL.cons (C.cst (D.int 0)) (CL.cons (C.var 6) CL.nil)))) CL.nil)))) SL.nil))))
def f_after_line : Fn := ⟨1, [], false, 7, b_after_line⟩
def b_after_empty_line : SL := SL.cons (S.sets [1, 2, 3] (C.attr (C.var 0) 1)) (SL.cons (S.iff (C.cmp Op.eq (C.attr (C.var 0) 0) (C.tup CL.nil)) (SL.cons (S.ret (C.new CL.nil)) SL.nil) SL.nil) (SL.cons (S.iff (C.or (C.cmp Op.ne (C.var 3) (C.tup CL.nil)) (C.f1 Fn1.any (C.lcomp 4 (C.attr (C.var 0) 0) CO.none (C.cmp Op.eq (C.ix (C.var 4) (C.cst (D.int 1))) (C.cst (D.str [116, 114, 121])))))) (SL.cons (S.ret (C.cst (D.non))) SL.nil) SL.nil) (SL.cons (S.ret (C.new (CL.cons (C.tup CL.nil) (CL.cons (C.tup (CL.cons (C.cst (D.str [100, 111, 110, 101])) CL.nil)) CL.nil)))) SL.nil)))
def f_after_empty_line : Fn := ⟨1, [], false, 5, b_after_empty_line⟩
def b_line_begun : SL := SL.cons (S.sets [1, 2, 3] (C.attr (C.var 0) 1)) (SL.cons (S.iff (C.cmp Op.eq (C.attr (C.var 0) 0) (C.tup CL.nil)) (SL.cons (S.ret (C.ite (C.cmp Op.eq (C.var 2) (C.cst (D.int 0))) (C.new (CL.cons (C.tup (CL.cons (C.tup (CL.cons (C.cst (D.int 0)) (CL.cons (C.cst (D.str [])) (CL.cons (C.cst (D.bl false)) (CL.cons (C.cst (D.bl false)) CL.nil))))) CL.nil)) (CL.cons (C.tup (CL.cons (C.cst (D.str [108, 105, 110, 101])) (CL.cons (C.cst (D.str [])) (CL.cons (C.cst (D.bl true)) CL.nil)))) (CL.cons (C.tup CL.nil) (CL.cons (C.cst (D.str [115, 116, 97, 116, 101, 109, 101, 110, 116])) CL.nil))))) (C.cst (D.non)))) SL.nil) SL.nil) (SL.cons (S.iff (C.cmp Op.ne (C.var 3) (C.tup CL.nil)) (SL.cons (S.iff (C.cmp Op.le (C.var 2) (C.ix (C.ix (C.attr (C.var 0) 0) (C.neg (C.cst (D.int 1)))) (C.cst (D.int 0)))) (SL.cons (S.ret (C.cst (D.non))) SL.nil) SL.nil) (SL.cons (S.ret (C.new (CL.cons (C.tup (CL.star (C.attr (C.var 0) 0) (CL.cons (C.tup (CL.cons (C.var 2) (CL.cons (C.cst (D.str [])) (CL.star (C.var 3) CL.nil)))) CL.nil))) (CL.cons (C.tup (CL.cons (C.cst (D.str [108, 105, 110, 101])) (CL.cons (C.cst (D.str [])) (CL.cons (C.cst (D.bl false)) CL.nil)))) (CL.cons (C.tup CL.nil) (CL.cons (C.cst (D.str [115, 116, 97, 116, 101, 109, 101, 110, 116])) CL.nil)))))) SL.nil)) SL.nil) (SL.cons (S.set 4 (C.attr (C.var 0) 0)) (SL.cons (S.whil (C.and (C.cmp Op.gt (C.ix (C.ix (C.var 4) (C.neg (C.cst (D.int 1)))) (C.cst (D.int 0))) (C.var 2)) (C.cmp Op.ne (C.ix (C.ix (C.var 4) (C.neg (C.cst (D.int 1)))) (C.cst (D.int 1))) (C.cst (D.str [116, 114, 121])))) (SL.cons (S.set 4 (C.slice (C.var 4) CO.none (CO.some (C.neg (C.cst (D.int 1)))))) SL.nil)) (SL.cons (S.sets [5, 6, 7, 8] (C.ix (C.var 4) (C.neg (C.cst (D.int 1))))) (SL.cons (S.iff (C.cmp Op.ne (C.var 5) (C.var 2)) (SL.cons (S.ret (C.cst (D.non))) SL.nil) SL.nil) (SL.cons (S.set 9 (C.ite (C.or (C.cmp Op.eq (C.var 5) (C.cst (D.int 0))) (C.cmp Op.eq (C.var 6) (C.cst (D.str [116, 114, 121])))) (C.cst (D.str [99, 108, 97, 117, 115, 101])) (C.cst (D.str [115, 116, 97, 116, 101, 109, 101, 110, 116])))) (SL.cons (S.ret (C.new (CL.cons (C.call 4 (CL.cons (C.var 4) (CL.cons (C.cst (D.str [])) CL.nil))) (CL.cons (C.tup (CL.cons (C.cst (D.str [108, 105, 110, 101])) (CL.cons (C.var 6) (CL.cons (C.cst (D.bl false)) CL.nil)))) (CL.cons (C.tup CL.nil) (CL.cons (C.var 9) CL.nil)))))) SL.nil))))))))
def f_line_begun : Fn := ⟨1, [], false, 10, b_line_begun⟩
def b_small_begun : SL := SL.cons (S.sets [1, 2, 3, 4] (C.ix (C.attr (C.var 0) 0) (C.neg (C.cst (D.int 1))))) (SL.cons (S.ret (C.new (CL.cons (C.attr (C.var 0) 0) (CL.cons (C.tup (CL.cons (C.cst (D.str [115, 109, 97, 108, 108])) (CL.cons (C.cst (D.str [])) (CL.cons (C.var 3) (CL.cons (C.var 4) (CL.cons (C.ix (C.attr (C.var 0) 1) (C.cst (D.int 2))) CL.nil)))))) (CL.cons (C.tup CL.nil) (CL.cons (C.cst (D.str [98, 101, 103, 105, 110])) CL.nil)))))) SL.nil)
def f_small_begun : Fn := ⟨1, [], false, 5, b_small_begun⟩
def b_header_begun : SL := SL.cons (S.sets [2, 3, 4, 5] (C.ix (C.attr (C.var 0) 0) (C.neg (C.cst (D.int 1))))) (SL.cons (S.set 6 (C.dget (C.cdic [[105, 102], [101, 108, 105, 102], [116, 114, 121], [101, 120, 99, 101, 112, 116]] [[105, 102], [105, 102], [116, 114, 121], [101, 120, 99, 101, 112, 116]]) (C.var 1) (C.cst (D.str [])))) (SL.cons (S.set 7 (C.ite (C.cmp Op.eq (C.var 1) (C.cst (D.str [100, 101, 102]))) (C.tup (CL.cons (C.cst (D.bl true)) (CL.cons (C.cst (D.bl false)) CL.nil))) (C.tup (CL.cons (C.var 4) (CL.cons (C.or (C.var 5) (C.cmp Op.isin (C.var 1) (C.tup (CL.cons (C.cst (D.str [119, 104, 105, 108, 101])) (CL.cons (C.cst (D.str [102, 111, 114])) CL.nil))))) CL.nil))))) (SL.cons (S.set 8 (C.cdic [[101, 108, 115, 101], [116, 114, 121], [102, 105, 110, 97, 108, 108, 121], [100, 101, 102], [102, 111, 114]] [[99, 111, 108, 111, 110], [99, 111, 108, 111, 110], [99, 111, 108, 111, 110], [100, 101, 102, 110, 97, 109, 101], [102, 111, 114, 110, 97, 109, 101]])) (SL.cons (S.set 9 (C.ite (C.cmp Op.eq (C.var 1) (C.cst (D.str [101, 120, 99, 101, 112, 116]))) (C.cst (D.str [101, 120, 99, 101, 112, 116, 110, 97, 109, 101])) (C.dget (C.var 8) (C.var 1) (C.cst (D.str [111, 112, 101, 114, 97, 110, 100]))))) (SL.cons (S.ret (C.new (CL.cons (C.attr (C.var 0) 0) (CL.cons (C.tup (CL.cons (C.cst (D.str [104, 101, 97, 100])) (CL.cons (C.var 6) (CL.star (C.var 7) CL.nil)))) (CL.cons (C.tup CL.nil) (CL.cons (C.var 9) CL.nil)))))) SL.nil)))))
def f_header_begun : Fn := ⟨2, [], false, 10, b_header_begun⟩
def b_after_word : SL := SL.cons (S.set 2 (C.attr (C.var 0) 3)) (SL.cons (S.iff (C.cmp Op.eq (C.var 2) (C.cst (D.str [99, 108, 97, 117, 115, 101]))) (SL.cons (S.ret (C.ite (C.cmp Op.isin (C.var 1) (C.kget 0 (C.ix (C.attr (C.var 0) 1) (C.cst (D.int 1))))) (C.call 9 (CL.cons (C.var 0) (CL.cons (C.var 1) CL.nil))) (C.cst (D.non)))) SL.nil) SL.nil) (SL.cons (S.iff (C.cmp Op.eq (C.var 2) (C.cst (D.str [115, 116, 97, 116, 101, 109, 101, 110, 116]))) (SL.cons (S.iff (C.or (C.cmp Op.isin (C.var 1) (C.glo 6)) (C.cmp Op.isin (C.var 1) (C.kget 0 (C.ix (C.attr (C.var 0) 1) (C.cst (D.int 1)))))) (SL.cons (S.ret (C.call 9 (CL.cons (C.var 0) (CL.cons (C.var 1) CL.nil)))) SL.nil) SL.nil) (SL.cons (S.ret (C.call 10 (CL.cons (C.call 8 (CL.cons (C.var 0) CL.nil)) (CL.cons (C.var 1) CL.nil)))) SL.nil)) SL.nil) (SL.cons (S.iff (C.cmp Op.isin (C.var 2) (C.glo 8)) (SL.cons (S.ret (C.ite (C.cmp Op.isin (C.var 1) (C.glo 5)) (C.meth 57 (C.var 0) (CL.cons (C.cst (D.str [111, 112, 101, 114, 97, 110, 100])) CL.nil)) (C.cst (D.non)))) SL.nil) SL.nil) (SL.cons (S.iff (C.cmp Op.eq (C.var 2) (C.cst (D.str [102, 111, 114, 105, 110]))) (SL.cons (S.ret (C.ite (C.cmp Op.eq (C.var 1) (C.cst (D.str [105, 110]))) (C.meth 57 (C.var 0) (CL.cons (C.cst (D.str [111, 112, 101, 114, 97, 110, 100])) CL.nil)) (C.cst (D.non)))) SL.nil) SL.nil) (SL.cons (S.iff (C.and (C.cmp Op.isin (C.var 2) (C.glo 9)) (C.cmp Op.isin (C.var 1) (C.tup (CL.cons (C.cst (D.str [112, 97, 115, 115])) (CL.cons (C.cst (D.str [98, 114, 101, 97, 107])) (CL.cons (C.cst (D.str [114, 101, 116, 117, 114, 110])) CL.nil)))))) (SL.cons (S.iff (C.cmp Op.eq (C.var 1) (C.cst (D.str [114, 101, 116, 117, 114, 110]))) (SL.cons (S.ret (C.ite (C.ix (C.attr (C.var 0) 1) (C.cst (D.int 2))) (C.meth 57 (C.var 0) (CL.cons (C.cst (D.str [109, 97, 121, 98, 101])) CL.nil)) (C.cst (D.non)))) SL.nil) SL.nil) (SL.cons (S.ret (C.ite (C.or (C.cmp Op.eq (C.var 1) (C.cst (D.str [112, 97, 115, 115]))) (C.ix (C.attr (C.var 0) 1) (C.cst (D.int 3)))) (C.meth 57 (C.var 0) (CL.cons (C.cst (D.str [101, 110, 100])) CL.nil)) (C.cst (D.non)))) SL.nil)) SL.nil) (SL.cons (S.iff (C.and (C.cmp Op.isin (C.var 2) (C.glo 10)) (C.cmp Op.eq (C.var 1) (C.cst (D.str [110, 111, 116])))) (SL.cons (S.ret (C.meth 57 (C.var 0) (CL.cons (C.cst (D.str [111, 112, 101, 114, 97, 110, 100])) CL.nil))) SL.nil) SL.nil) (SL.cons (S.iff (C.cmp Op.isin (C.var 1) (C.glo 0)) (SL.cons (S.ret (C.cst (D.non))) SL.nil) SL.nil) (SL.cons (S.iff (C.cmp Op.isin (C.var 2) (C.glo 10)) (SL.cons (S.ret (C.meth 57 (C.var 0) (CL.cons (C.ite (C.cmp Op.isin (C.var 2) (C.glo 9)) (C.cst (D.str [116, 97, 114, 103, 101, 116])) (C.ite (C.cmp Op.eq (C.var 2) (C.cst (D.str [97, 114, 103]))) (C.cst (D.str [110, 97, 109, 101, 100])) (C.cst (D.str [97, 102, 116, 101, 114])))) CL.nil))) SL.nil) SL.nil) (SL.cons (S.set 3 (C.cdic [[110, 97, 109, 101], [99, 104, 97, 105, 110, 110, 97, 109, 101], [100, 101, 102, 110, 97, 109, 101], [102, 111, 114, 110, 97, 109, 101]] [[97, 102, 116, 101, 114], [116, 97, 114, 103, 101, 116], [100, 101, 102, 111, 112, 101, 110], [102, 111, 114, 105, 110]])) (SL.cons (S.ret (C.meth 57 (C.var 0) (CL.cons (C.ix (C.dstar (C.var 3) [[101, 120, 99, 101, 112, 116, 110, 97, 109, 101], [112, 97, 114, 97, 109]] [[99, 111, 108, 111, 110], [112, 97, 114, 97, 109, 100, 111, 110, 101]]) (C.var 2)) CL.nil))) SL.nil))))))))))
def f_after_word : Fn := ⟨2, [], false, 4, b_after_word⟩
def b_may_assign : SL := SL.cons (S.iff (C.cmp Op.eq (C.var 1) (C.cst (D.str [110, 97, 109, 101, 100]))) (SL.cons (S.ret (C.cst (D.bl true))) SL.nil) SL.nil) (SL.cons (S.ret (C.and (C.cmp Op.eq (C.var 1) (C.cst (D.str [116, 97, 114, 103, 101, 116]))) (C.and (C.cmp Op.eq (C.ix (C.attr (C.var 0) 1) (C.cst (D.int 0))) (C.cst (D.str [115, 109, 97, 108, 108]))) (C.cmp Op.eq (C.attr (C.var 0) 2) (C.tup CL.nil))))) SL.nil)
def f_may_assign : Fn := ⟨2, [], false, 2, b_may_assign⟩
def b_after_short : SL := SL.cons (S.sets [2, 3, 4, 5] (C.attr (C.var 0) 4)) (SL.cons (S.iff (C.cmp Op.eq (C.var 1) (C.cst (D.str [10]))) (SL.cons (S.ret (C.cst (D.non))) SL.nil) SL.nil) (SL.cons (S.iff (C.and (C.not (C.var 5)) (C.cmp Op.eq (C.var 1) (C.var 3))) (SL.cons (S.ret (C.meth 57 (C.var 0) (CL.cons (C.var 4) CL.nil))) SL.nil) SL.nil) (SL.cons (S.ret (C.meth 58 (C.var 0) (CL.cons (C.cst (D.str [115, 104, 111, 114, 116])) (CL.cons (C.var 3) (CL.cons (C.var 4) (CL.cons (C.and (C.not (C.var 5)) (C.cmp Op.eq (C.var 1) (C.cst (D.str [92])))) CL.nil)))))) SL.nil)))
def f_after_short : Fn := ⟨2, [], false, 6, b_after_short⟩
def b_after_long : SL := SL.cons (S.sets [2, 3, 4, 5, 6] (C.attr (C.var 0) 4)) (SL.cons (S.iff (C.or (C.var 6) (C.cmp Op.notin (C.var 1) (C.tup (CL.cons (C.var 3) (CL.cons (C.cst (D.str [92])) CL.nil))))) (SL.cons (S.ret (C.meth 58 (C.var 0) (CL.cons (C.cst (D.str [108, 111, 110, 103])) (CL.cons (C.var 3) (CL.cons (C.var 4) (CL.cons (C.cst (D.int 0)) (CL.cons (C.cst (D.bl false)) CL.nil))))))) SL.nil) SL.nil) (SL.cons (S.iff (C.cmp Op.eq (C.var 1) (C.cst (D.str [92]))) (SL.cons (S.ret (C.meth 58 (C.var 0) (CL.cons (C.cst (D.str [108, 111, 110, 103])) (CL.cons (C.var 3) (CL.cons (C.var 4) (CL.cons (C.cst (D.int 0)) (CL.cons (C.cst (D.bl true)) CL.nil))))))) SL.nil) SL.nil) (SL.cons (S.ret (C.ite (C.cmp Op.eq (C.var 5) (C.cst (D.int 2))) (C.meth 57 (C.var 0) (CL.cons (C.var 4) CL.nil)) (C.meth 58 (C.var 0) (CL.cons (C.cst (D.str [108, 111, 110, 103])) (CL.cons (C.var 3) (CL.cons (C.var 4) (CL.cons (C.bin Op.add (C.var 5) (C.cst (D.int 1))) (CL.cons (C.cst (D.bl false)) CL.nil)))))))) SL.nil)))
def f_after_long : Fn := ⟨2, [], false, 7, b_after_long⟩
def b_after_template : SL := SL.cons (S.sets [2, 3, 4] (C.attr (C.var 0) 4)) (SL.cons (S.iff (C.or (C.cmp Op.eq (C.var 1) (C.cst (D.str [10]))) (C.and (C.cmp Op.eq (C.var 1) (C.cst (D.str [125]))) (C.not (C.var 4)))) (SL.cons (S.ret (C.cst (D.non))) SL.nil) SL.nil) (SL.cons (S.iff (C.var 4) (SL.cons (S.ret (C.meth 58 (C.var 0) (CL.cons (C.cst (D.str [116, 101, 109, 112, 108, 97, 116, 101])) (CL.cons (C.var 3) (CL.cons (C.cst (D.bl false)) CL.nil))))) SL.nil) SL.nil) (SL.cons (S.iff (C.cmp Op.eq (C.var 1) (C.cst (D.str [123]))) (SL.cons (S.ret (C.meth 59 (C.var 0) (CL.cons (C.cst (D.str [102])) (CL.cons (C.var 3) (CL.cons (C.cst (D.str [111, 112, 101, 114, 97, 110, 100])) CL.nil))))) SL.nil) SL.nil) (SL.cons (S.ret (C.ite (C.cmp Op.eq (C.var 1) (C.cst (D.str [34]))) (C.meth 57 (C.var 0) (CL.cons (C.var 3) CL.nil)) (C.meth 58 (C.var 0) (CL.cons (C.cst (D.str [116, 101, 109, 112, 108, 97, 116, 101])) (CL.cons (C.var 3) (CL.cons (C.cmp Op.eq (C.var 1) (C.cst (D.str [92]))) CL.nil)))))) SL.nil))))
def f_after_template : Fn := ⟨2, [], false, 5, b_after_template⟩
def b_after_operator : SL := SL.cons (S.set 2 (C.ix (C.attr (C.var 0) 4) (C.cst (D.int 0)))) (SL.cons (S.iff (C.cmp Op.eq (C.var 1) (C.cst (D.str [61]))) (SL.cons (S.ret (C.meth 57 (C.var 0) (CL.cons (C.cst (D.str [111, 112, 101, 114, 97, 110, 100])) CL.nil))) SL.nil) SL.nil) (SL.cons (S.iff (C.or (C.cmp Op.eq (C.var 2) (C.cst (D.str [108, 101, 115, 115]))) (C.and (C.cmp Op.eq (C.var 2) (C.cst (D.str [101, 113, 117, 97, 108]))) (C.call 11 (CL.cons (C.var 0) (CL.cons (C.attr (C.var 0) 3) CL.nil))))) (SL.cons (S.ret (C.call 26 (CL.cons (C.meth 57 (C.var 0) (CL.cons (C.cst (D.str [111, 112, 101, 114, 97, 110, 100])) CL.nil)) (CL.cons (C.var 1) CL.nil)))) SL.nil) SL.nil) (SL.cons (S.ret (C.cst (D.non))) SL.nil)))
def f_after_operator : Fn := ⟨2, [], false, 3, b_after_operator⟩
def b_after_word_sign : SL := SL.cons (S.set 2 (C.ix (C.attr (C.var 0) 4) (C.cst (D.int 1)))) (SL.cons (S.iff (C.or (C.cmp Op.isin (C.var 1) (C.glo 1)) (C.cmp Op.isin (C.var 1) (C.glo 4))) (SL.cons (S.ret (C.ite (C.meth 63 (C.var 0) (CL.cons (C.bin Op.add (C.var 2) (C.var 1)) CL.nil)) (C.meth 58 (C.var 0) (CL.cons (C.cst (D.str [119, 111, 114, 100])) (CL.cons (C.bin Op.add (C.var 2) (C.var 1)) CL.nil))) (C.cst (D.non)))) SL.nil) SL.nil) (SL.cons (S.set 3 (C.call 10 (CL.cons (C.var 0) (CL.cons (C.var 2) CL.nil)))) (SL.cons (S.ret (C.ite (C.isN (C.var 3)) (C.cst (D.non)) (C.call 26 (CL.cons (C.var 3) (CL.cons (C.var 1) CL.nil))))) SL.nil)))
def f_after_word_sign : Fn := ⟨2, [], false, 4, b_after_word_sign⟩
def b_after_number : SL := SL.cons (S.iff (C.and (C.cmp Op.isin (C.var 1) (C.glo 4)) (C.cmp Op.eq (C.ix (C.attr (C.var 0) 4) (C.cst (D.int 1))) (C.cst (D.str [49])))) (SL.cons (S.ret (C.var 0)) SL.nil) SL.nil) (SL.cons (S.iff (C.or (C.cmp Op.isin (C.var 1) (C.glo 1)) (C.cmp Op.isin (C.var 1) (C.glo 4))) (SL.cons (S.ret (C.cst (D.non))) SL.nil) SL.nil) (SL.cons (S.ret (C.call 26 (CL.cons (C.meth 57 (C.var 0) (CL.cons (C.cst (D.str [115, 101, 97, 108, 101, 100])) CL.nil)) (CL.cons (C.var 1) CL.nil)))) SL.nil))
def f_after_number : Fn := ⟨2, [], false, 2, b_after_number⟩
def b_after_quote : SL := SL.cons (S.sets [2, 3, 4] (C.attr (C.var 0) 4)) (SL.cons (S.iff (C.cmp Op.eq (C.var 2) (C.cst (D.str [101, 109, 112, 116, 121]))) (SL.cons (S.iff (C.cmp Op.eq (C.var 1) (C.var 3)) (SL.cons (S.ret (C.meth 58 (C.var 0) (CL.cons (C.cst (D.str [108, 111, 110, 103])) (CL.cons (C.var 3) (CL.cons (C.var 4) (CL.cons (C.cst (D.int 0)) (CL.cons (C.cst (D.bl false)) CL.nil))))))) SL.nil) SL.nil) (SL.cons (S.ret (C.call 26 (CL.cons (C.meth 57 (C.var 0) (CL.cons (C.var 4) CL.nil)) (CL.cons (C.var 1) CL.nil)))) SL.nil)) SL.nil) (SL.cons (S.iff (C.cmp Op.eq (C.var 1) (C.var 3)) (SL.cons (S.ret (C.meth 58 (C.var 0) (CL.cons (C.cst (D.str [101, 109, 112, 116, 121])) (CL.cons (C.var 3) (CL.cons (C.var 4) CL.nil))))) SL.nil) SL.nil) (SL.cons (S.ret (C.call 12 (CL.cons (C.meth 58 (C.var 0) (CL.cons (C.cst (D.str [115, 104, 111, 114, 116])) (CL.cons (C.var 3) (CL.cons (C.var 4) (CL.cons (C.cst (D.bl false)) CL.nil))))) (CL.cons (C.var 1) CL.nil)))) SL.nil)))
def f_after_quote : Fn := ⟨2, [], false, 5, b_after_quote⟩
def b_after_token : SL := SL.cons (S.mtch (C.ix (C.attr (C.var 0) 4) (C.cst (D.int 0))) (ML.cons [[119, 111, 114, 100]] (SL.cons (S.ret (C.call 16 (CL.cons (C.var 0) (CL.cons (C.var 1) CL.nil)))) SL.nil) (ML.cons [[110, 117, 109, 98, 101, 114]] (SL.cons (S.ret (C.call 17 (CL.cons (C.var 0) (CL.cons (C.var 1) CL.nil)))) SL.nil) (ML.cons [[115, 104, 111, 114, 116]] (SL.cons (S.ret (C.call 12 (CL.cons (C.var 0) (CL.cons (C.var 1) CL.nil)))) SL.nil) (ML.cons [[108, 111, 110, 103]] (SL.cons (S.ret (C.call 13 (CL.cons (C.var 0) (CL.cons (C.var 1) CL.nil)))) SL.nil) (ML.cons [[116, 101, 109, 112, 108, 97, 116, 101]] (SL.cons (S.ret (C.call 14 (CL.cons (C.var 0) (CL.cons (C.var 1) CL.nil)))) SL.nil) (ML.cons [[113, 117, 111, 116, 101], [101, 109, 112, 116, 121]] (SL.cons (S.ret (C.call 18 (CL.cons (C.var 0) (CL.cons (C.var 1) CL.nil)))) SL.nil) (ML.cons [[108, 101, 115, 115], [101, 113, 117, 97, 108], [98, 97, 110, 103]] (SL.cons (S.ret (C.call 15 (CL.cons (C.var 0) (CL.cons (C.var 1) CL.nil)))) SL.nil) (ML.cons [[100, 111, 108, 108, 97, 114]] (SL.cons (S.ret (C.ite (C.cmp Op.eq (C.var 1) (C.cst (D.str [34]))) (C.meth 58 (C.var 0) (CL.cons (C.cst (D.str [116, 101, 109, 112, 108, 97, 116, 101])) (CL.cons (C.ix (C.attr (C.var 0) 4) (C.cst (D.int 1))) (CL.cons (C.cst (D.bl false)) CL.nil)))) (C.cst (D.non)))) SL.nil) (ML.cons [[106, 111, 105, 110]] (SL.cons (S.ret (C.ite (C.cmp Op.eq (C.var 1) (C.cst (D.str [10]))) (C.meth 57 (C.var 0) (CL.cons (C.attr (C.var 0) 3) CL.nil)) (C.cst (D.non)))) SL.nil) ML.nil)))))))))) (SL.cons (S.ret (C.ite (C.cmp Op.eq (C.var 1) (C.cst (D.str [10]))) (C.call 26 (CL.cons (C.meth 57 (C.var 0) (CL.cons (C.attr (C.var 0) 3) CL.nil)) (CL.cons (C.var 1) CL.nil))) (C.var 0))) SL.nil)
def f_after_token : Fn := ⟨2, [], false, 2, b_after_token⟩
def b_after_operand_sign : SL := SL.cons (S.set 2 (C.attr (C.var 0) 3)) (SL.cons (S.set 3 (C.ite (C.cmp Op.isin (C.var 2) (C.glo 9)) (C.cst (D.str [99, 104, 97, 105, 110])) (C.cst (D.str [97, 102, 116, 101, 114])))) (SL.cons (S.iff (C.cmp Op.isin (C.var 1) (C.glo 4)) (SL.cons (S.ret (C.meth 58 (C.var 0) (CL.cons (C.cst (D.str [110, 117, 109, 98, 101, 114])) (CL.cons (C.ite (C.cmp Op.eq (C.var 1) (C.cst (D.str [48]))) (C.cst (D.str [48])) (C.cst (D.str [49]))) CL.nil)))) SL.nil) SL.nil) (SL.cons (S.iff (C.cmp Op.isin (C.var 1) (C.cst (D.str [39, 34]))) (SL.cons (S.ret (C.meth 57 (C.var 0) (CL.cons (C.cst (D.str [])) (CL.cons (C.tup (CL.cons (C.cst (D.str [113, 117, 111, 116, 101])) (CL.cons (C.var 1) (CL.cons (C.var 3) CL.nil)))) CL.nil)))) SL.nil) SL.nil) (SL.cons (S.iff (C.cmp Op.eq (C.var 1) (C.cst (D.str [36]))) (SL.cons (S.ret (C.meth 57 (C.var 0) (CL.cons (C.cst (D.str [])) (CL.cons (C.tup (CL.cons (C.cst (D.str [100, 111, 108, 108, 97, 114])) (CL.cons (C.var 3) CL.nil))) CL.nil)))) SL.nil) SL.nil) (SL.cons (S.iff (C.cmp Op.eq (C.var 1) (C.cst (D.str [45]))) (SL.cons (S.ret (C.meth 57 (C.var 0) (CL.cons (C.cst (D.str [111, 112, 101, 114, 97, 110, 100])) CL.nil))) SL.nil) SL.nil) (SL.cons (S.iff (C.cmp Op.isin (C.var 1) (C.cst (D.str [40, 91, 123]))) (SL.cons (S.ret (C.meth 59 (C.var 0) (CL.cons (C.ite (C.cmp Op.eq (C.var 1) (C.cst (D.str [123]))) (C.cst (D.str [123, 107])) (C.var 1)) (CL.cons (C.var 3) (CL.cons (C.cst (D.str [102, 105, 114, 115, 116])) CL.nil))))) SL.nil) SL.nil) (SL.cons (S.iff (C.and (C.cmp Op.isin (C.var 2) (C.tup (CL.cons (C.cst (D.str [102, 105, 114, 115, 116])) (CL.cons (C.cst (D.str [97, 114, 103])) CL.nil)))) (C.cmp Op.eq (C.var 1) (C.kget 1 (C.meth 62 (C.var 0) CL.nil)))) (SL.cons (S.ret (C.meth 61 (C.var 0) CL.nil)) SL.nil) SL.nil) (SL.cons (S.ret (C.ite (C.and (C.cmp Op.eq (C.var 2) (C.cst (D.str [109, 97, 121, 98, 101]))) (C.cmp Op.eq (C.var 1) (C.cst (D.str [59])))) (C.meth 57 (C.var 0) (CL.cons (C.cst (D.str [109, 111, 114, 101])) CL.nil)) (C.cst (D.non)))) SL.nil))))))))
def f_after_operand_sign : Fn := ⟨2, [], false, 4, b_after_operand_sign⟩
def b_after_comma : SL := SL.cons (S.mtch (C.meth 62 (C.var 0) CL.nil) (ML.cons [[40], [91]] (SL.cons (S.ret (C.meth 57 (C.var 0) (CL.cons (C.cst (D.str [102, 105, 114, 115, 116])) CL.nil))) SL.nil) (ML.cons [[99]] (SL.cons (S.ret (C.meth 57 (C.var 0) (CL.cons (C.cst (D.str [97, 114, 103])) CL.nil))) SL.nil) (ML.cons [[123, 118]] (SL.cons (S.ret (C.meth 60 (C.var 0) (CL.cons (C.cst (D.str [123, 107])) (CL.cons (C.cst (D.str [102, 105, 114, 115, 116])) CL.nil)))) SL.nil) (ML.cons [[112]] (SL.cons (S.ret (C.meth 57 (C.var 0) (CL.cons (C.cst (D.str [112, 97, 114, 97, 109])) CL.nil))) SL.nil) ML.nil))))) (SL.cons (S.ret (C.cst (D.non))) SL.nil)
def f_after_comma : Fn := ⟨1, [], false, 1, b_after_comma⟩
def b_after_colon : SL := SL.cons (S.iff (C.cmp Op.eq (C.meth 62 (C.var 0) CL.nil) (C.cst (D.str [123, 107]))) (SL.cons (S.ret (C.meth 60 (C.var 0) (CL.cons (C.cst (D.str [123, 118])) (CL.cons (C.cst (D.str [111, 112, 101, 114, 97, 110, 100])) CL.nil)))) SL.nil) SL.nil) (SL.cons (S.iff (C.or (C.cmp Op.ne (C.attr (C.var 0) 2) (C.tup CL.nil)) (C.cmp Op.ne (C.ix (C.attr (C.var 0) 1) (C.cst (D.int 0))) (C.cst (D.str [104, 101, 97, 100])))) (SL.cons (S.ret (C.cst (D.non))) SL.nil) SL.nil) (SL.cons (S.sets [1, 2, 3, 4] (C.attr (C.var 0) 1)) (SL.cons (S.ret (C.new (CL.cons (C.attr (C.var 0) 0) (CL.cons (C.tup (CL.cons (C.cst (D.str [115, 109, 97, 108, 108])) (CL.cons (C.var 2) (CL.cons (C.var 3) (CL.cons (C.var 4) (CL.cons (C.cst (D.bl false)) CL.nil)))))) (CL.cons (C.tup CL.nil) (CL.cons (C.cst (D.str [115, 117, 105, 116, 101])) CL.nil)))))) SL.nil)))
def f_after_colon : Fn := ⟨1, [], false, 5, b_after_colon⟩
def b_after_done_sign : SL := SL.cons (S.par 2 3 (C.attr (C.var 0) 3) (C.meth 62 (C.var 0) CL.nil)) (SL.cons (S.iff (C.cmp Op.isin (C.var 1) (C.cst (D.str [43, 45, 42, 47]))) (SL.cons (S.ret (C.meth 57 (C.var 0) (CL.cons (C.cst (D.str [111, 112, 101, 114, 97, 110, 100])) CL.nil))) SL.nil) SL.nil) (SL.cons (S.iff (C.cmp Op.isin (C.var 1) (C.cst (D.str [60, 62]))) (SL.cons (S.ret (C.meth 58 (C.var 0) (CL.cons (C.cst (D.str [108, 101, 115, 115])) CL.nil))) SL.nil) SL.nil) (SL.cons (S.iff (C.cmp Op.isin (C.var 1) (C.cst (D.str [61, 33]))) (SL.cons (S.ret (C.meth 58 (C.var 0) (CL.cons (C.ite (C.cmp Op.eq (C.var 1) (C.cst (D.str [61]))) (C.cst (D.str [101, 113, 117, 97, 108])) (C.cst (D.str [98, 97, 110, 103]))) CL.nil))) SL.nil) SL.nil) (SL.cons (S.iff (C.and (C.cmp Op.ne (C.var 2) (C.cst (D.str [115, 101, 97, 108, 101, 100]))) (C.cmp Op.isin (C.var 1) (C.cst (D.str [46, 40, 91])))) (SL.cons (S.iff (C.cmp Op.eq (C.var 1) (C.cst (D.str [46]))) (SL.cons (S.ret (C.meth 57 (C.var 0) (CL.cons (C.ite (C.cmp Op.isin (C.var 2) (C.glo 7)) (C.cst (D.str [99, 104, 97, 105, 110, 110, 97, 109, 101])) (C.cst (D.str [110, 97, 109, 101]))) CL.nil))) SL.nil) SL.nil) (SL.cons (S.iff (C.cmp Op.eq (C.var 1) (C.cst (D.str [40]))) (SL.cons (S.ret (C.meth 59 (C.var 0) (CL.cons (C.cst (D.str [99])) (CL.cons (C.ite (C.cmp Op.isin (C.var 2) (C.glo 7)) (C.cst (D.str [99, 104, 97, 105, 110])) (C.cst (D.str [97, 102, 116, 101, 114]))) (CL.cons (C.cst (D.str [97, 114, 103])) CL.nil))))) SL.nil) SL.nil) (SL.cons (S.ret (C.meth 59 (C.var 0) (CL.cons (C.cst (D.str [105])) (CL.cons (C.ite (C.cmp Op.isin (C.var 2) (C.glo 7)) (C.cst (D.str [116, 97, 114, 103, 101, 116])) (C.cst (D.str [97, 102, 116, 101, 114]))) (CL.cons (C.cst (D.str [111, 112, 101, 114, 97, 110, 100])) CL.nil))))) SL.nil))) SL.nil) (SL.cons (S.iff (C.cmp Op.eq (C.var 1) (C.cst (D.str [44]))) (SL.cons (S.ret (C.call 21 (CL.cons (C.var 0) CL.nil))) SL.nil) SL.nil) (SL.cons (S.iff (C.cmp Op.eq (C.var 1) (C.cst (D.str [58]))) (SL.cons (S.ret (C.call 22 (CL.cons (C.var 0) CL.nil))) SL.nil) SL.nil) (SL.cons (S.iff (C.cmp Op.eq (C.var 1) (C.cst (D.str [59]))) (SL.cons (S.ret (C.ite (C.and (C.cmp Op.eq (C.attr (C.var 0) 2) (C.tup CL.nil)) (C.cmp Op.eq (C.ix (C.attr (C.var 0) 1) (C.cst (D.int 0))) (C.cst (D.str [115, 109, 97, 108, 108])))) (C.meth 57 (C.var 0) (CL.cons (C.cst (D.str [109, 111, 114, 101])) CL.nil)) (C.cst (D.non)))) SL.nil) SL.nil) (SL.cons (S.ret (C.ite (C.and (C.cmp Op.notin (C.var 3) (C.tup (CL.cons (C.cst (D.str [])) (CL.cons (C.cst (D.str [123, 107])) (CL.cons (C.cst (D.str [112])) CL.nil))))) (C.cmp Op.eq (C.var 1) (C.kget 1 (C.var 3)))) (C.meth 61 (C.var 0) CL.nil) (C.cst (D.non)))) SL.nil))))))))
def f_after_done_sign : Fn := ⟨2, [], false, 4, b_after_done_sign⟩
def b_after_code_sign : SL := SL.cons (S.set 2 (C.attr (C.var 0) 3)) (SL.cons (S.iff (C.cmp Op.isin (C.var 1) (C.glo 1)) (SL.cons (S.ret (C.ite (C.meth 63 (C.var 0) (CL.cons (C.var 1) CL.nil)) (C.meth 58 (C.var 0) (CL.cons (C.cst (D.str [119, 111, 114, 100])) (CL.cons (C.var 1) CL.nil))) (C.cst (D.non)))) SL.nil) SL.nil) (SL.cons (S.iff (C.cmp Op.eq (C.var 2) (C.cst (D.str [115, 116, 97, 116, 101, 109, 101, 110, 116]))) (SL.cons (S.ret (C.call 24 (CL.cons (C.call 8 (CL.cons (C.var 0) CL.nil)) (CL.cons (C.var 1) CL.nil)))) SL.nil) SL.nil) (SL.cons (S.iff (C.cmp Op.isin (C.var 2) (C.glo 10)) (SL.cons (S.ret (C.call 20 (CL.cons (C.var 0) (CL.cons (C.var 1) CL.nil)))) SL.nil) SL.nil) (SL.cons (S.iff (C.cmp Op.isin (C.var 2) (C.glo 8)) (SL.cons (S.ret (C.call 23 (CL.cons (C.var 0) (CL.cons (C.var 1) CL.nil)))) SL.nil) SL.nil) (SL.cons (S.iff (C.and (C.cmp Op.eq (C.var 2) (C.cst (D.str [101, 110, 100]))) (C.cmp Op.eq (C.var 1) (C.cst (D.str [59])))) (SL.cons (S.ret (C.meth 57 (C.var 0) (CL.cons (C.cst (D.str [109, 111, 114, 101])) CL.nil))) SL.nil) SL.nil) (SL.cons (S.iff (C.and (C.cmp Op.isin (C.var 2) (C.tup (CL.cons (C.cst (D.str [99, 111, 108, 111, 110])) (CL.cons (C.cst (D.str [101, 120, 99, 101, 112, 116, 110, 97, 109, 101])) CL.nil)))) (C.cmp Op.eq (C.var 1) (C.cst (D.str [58])))) (SL.cons (S.ret (C.call 22 (CL.cons (C.var 0) CL.nil))) SL.nil) SL.nil) (SL.cons (S.iff (C.and (C.cmp Op.eq (C.var 2) (C.cst (D.str [100, 101, 102, 111, 112, 101, 110]))) (C.cmp Op.eq (C.var 1) (C.cst (D.str [40])))) (SL.cons (S.ret (C.meth 59 (C.var 0) (CL.cons (C.cst (D.str [112])) (CL.cons (C.cst (D.str [99, 111, 108, 111, 110])) (CL.cons (C.cst (D.str [112, 97, 114, 97, 109])) CL.nil))))) SL.nil) SL.nil) (SL.cons (S.iff (C.and (C.cmp Op.isin (C.var 2) (C.tup (CL.cons (C.cst (D.str [112, 97, 114, 97, 109])) (CL.cons (C.cst (D.str [112, 97, 114, 97, 109, 100, 111, 110, 101])) CL.nil)))) (C.cmp Op.eq (C.var 1) (C.cst (D.str [41])))) (SL.cons (S.ret (C.meth 61 (C.var 0) CL.nil)) SL.nil) SL.nil) (SL.cons (S.ret (C.ite (C.and (C.cmp Op.eq (C.var 2) (C.cst (D.str [112, 97, 114, 97, 109, 100, 111, 110, 101]))) (C.cmp Op.eq (C.var 1) (C.cst (D.str [44])))) (C.call 21 (CL.cons (C.var 0) CL.nil)) (C.cst (D.non)))) SL.nil)))))))))
def f_after_code_sign : Fn := ⟨2, [], false, 3, b_after_code_sign⟩
def b_after_start_sign : SL := SL.cons (S.sets [2, 3, 4] (C.attr (C.var 0) 1)) (SL.cons (S.iff (C.cmp Op.eq (C.var 1) (C.cst (D.str [32]))) (SL.cons (S.ret (C.new (CL.cons (C.attr (C.var 0) 0) (CL.cons (C.tup (CL.cons (C.cst (D.str [115, 116, 97, 114, 116])) (CL.cons (C.bin Op.add (C.var 3) (C.cst (D.int 1))) (CL.cons (C.var 4) CL.nil)))) CL.nil)))) SL.nil) SL.nil) (SL.cons (S.iff (C.cmp Op.eq (C.var 1) (C.cst (D.str [35]))) (SL.cons (S.ret (C.meth 58 (C.var 0) (CL.cons (C.cst (D.str [99, 111, 109, 109, 101, 110, 116])) CL.nil))) SL.nil) SL.nil) (SL.cons (S.iff (C.cmp Op.eq (C.var 1) (C.cst (D.str [10]))) (SL.cons (S.ret (C.call 6 (CL.cons (C.var 0) CL.nil))) SL.nil) SL.nil) (SL.cons (S.set 5 (C.call 7 (CL.cons (C.var 0) CL.nil))) (SL.cons (S.ret (C.ite (C.or (C.isN (C.var 5)) (C.cmp Op.eq (C.var 1) (C.cst (D.str [92])))) (C.cst (D.non)) (C.call 24 (CL.cons (C.var 5) (CL.cons (C.var 1) CL.nil))))) SL.nil)))))
def f_after_start_sign : Fn := ⟨2, [], false, 6, b_after_start_sign⟩
def b_after_plain : SL := SL.cons (S.iff (C.cmp Op.eq (C.ix (C.attr (C.var 0) 1) (C.cst (D.int 0))) (C.cst (D.str [100, 111, 110, 101]))) (SL.cons (S.ret (C.cst (D.non))) SL.nil) SL.nil) (SL.cons (S.iff (C.cmp Op.eq (C.ix (C.attr (C.var 0) 1) (C.cst (D.int 0))) (C.cst (D.str [115, 116, 97, 114, 116]))) (SL.cons (S.ret (C.call 25 (CL.cons (C.var 0) (CL.cons (C.var 1) CL.nil)))) SL.nil) SL.nil) (SL.cons (S.iff (C.or (C.cmp Op.eq (C.var 1) (C.cst (D.str [32]))) (C.and (C.cmp Op.eq (C.var 1) (C.cst (D.str [10]))) (C.cmp Op.ne (C.attr (C.var 0) 2) (C.tup CL.nil)))) (SL.cons (S.ret (C.var 0)) SL.nil) SL.nil) (SL.cons (S.iff (C.cmp Op.eq (C.var 1) (C.cst (D.str [92]))) (SL.cons (S.ret (C.meth 58 (C.var 0) (CL.cons (C.cst (D.str [106, 111, 105, 110])) CL.nil))) SL.nil) SL.nil) (SL.cons (S.iff (C.cmp Op.eq (C.var 1) (C.cst (D.str [10]))) (SL.cons (S.ret (C.call 5 (CL.cons (C.var 0) CL.nil))) SL.nil) SL.nil) (SL.cons (S.iff (C.cmp Op.eq (C.var 1) (C.cst (D.str [35]))) (SL.cons (S.ret (C.ite (C.or (C.cmp Op.ne (C.attr (C.var 0) 2) (C.tup CL.nil)) (C.notN (C.call 5 (CL.cons (C.var 0) CL.nil)))) (C.meth 58 (C.var 0) (CL.cons (C.cst (D.str [99, 111, 109, 109, 101, 110, 116])) CL.nil)) (C.cst (D.non)))) SL.nil) SL.nil) (SL.cons (S.ret (C.call 24 (CL.cons (C.var 0) (CL.cons (C.var 1) CL.nil)))) SL.nil))))))
def f_after_plain : Fn := ⟨2, [], false, 2, b_after_plain⟩
def b_next_state : SL := SL.cons (S.iff (C.cmp Op.eq (C.attr (C.var 0) 4) (C.tup CL.nil)) (SL.cons (S.ret (C.call 26 (CL.cons (C.var 0) (CL.cons (C.var 1) CL.nil)))) SL.nil) SL.nil) (SL.cons (S.iff (C.and (C.cmp Op.eq (C.attr (C.var 0) 4) (C.tup (CL.cons (C.cst (D.str [99, 111, 109, 109, 101, 110, 116])) CL.nil))) (C.and (C.cmp Op.eq (C.ix (C.attr (C.var 0) 1) (C.cst (D.int 0))) (C.cst (D.str [115, 116, 97, 114, 116]))) (C.cmp Op.eq (C.var 1) (C.cst (D.str [10]))))) (SL.cons (S.ret (C.new (CL.cons (C.attr (C.var 0) 0) (CL.cons (C.tup (CL.cons (C.cst (D.str [115, 116, 97, 114, 116])) (CL.cons (C.cst (D.int 0)) (CL.cons (C.ix (C.attr (C.var 0) 1) (C.cst (D.int 2))) CL.nil)))) CL.nil)))) SL.nil) SL.nil) (SL.cons (S.ret (C.call 19 (CL.cons (C.var 0) (CL.cons (C.var 1) CL.nil)))) SL.nil))
def f_next_state : Fn := ⟨2, [], false, 2, b_next_state⟩
def b_state_behind : SL := SL.cons (S.forE 2 3 (C.var 1) (SL.cons (S.set 4 (C.call 27 (CL.cons (C.var 0) (CL.cons (C.var 3) CL.nil)))) (SL.cons (S.iff (C.isN (C.var 4)) (SL.cons (S.ret (C.tup (CL.cons (C.cst (D.non)) (CL.cons (C.var 2) CL.nil)))) SL.nil) SL.nil) (SL.cons (S.set 0 (C.var 4)) SL.nil)))) (SL.cons (S.ret (C.tup (CL.cons (C.var 0) (CL.cons (C.f1 Fn1.len (C.var 1)) CL.nil)))) SL.nil)
def f_state_behind : Fn := ⟨2, [], false, 5, b_state_behind⟩
def b_state_of : SL := SL.cons (S.ret (C.call 28 (CL.cons (C.new CL.nil) (CL.cons (C.var 0) CL.nil)))) SL.nil
def f_state_of : Fn := ⟨1, [], false, 1, b_state_of⟩
def b_is_entry_state : SL := SL.cons (S.ret (C.cmp Op.eq (C.ix (C.attr (C.var 0) 1) (C.cst (D.int 0))) (C.cst (D.str [100, 111, 110, 101])))) SL.nil
def f_is_entry_state : Fn := ⟨1, [], false, 1, b_is_entry_state⟩
def b_state_verdict : SL := SL.cons (S.iff (C.isN (C.var 0)) (SL.cons (S.ret (C.cst (D.str [119, 114, 111, 110, 103]))) SL.nil) SL.nil) (SL.cons (S.iff (C.call 30 (CL.cons (C.var 0) CL.nil)) (SL.cons (S.ret (C.cst (D.str [99, 111, 109, 112, 108, 101, 116, 101]))) SL.nil) SL.nil) (SL.cons (S.ret (C.ite (C.cmp Op.eq (C.attr (C.var 0) 0) (C.tup CL.nil)) (C.cst (D.str [101, 109, 112, 116, 121])) (C.cst (D.str [105, 110, 99, 111, 109, 112, 108, 101, 116, 101])))) SL.nil))
def f_state_verdict : Fn := ⟨1, [], false, 1, b_state_verdict⟩
def b_is_index : SL := SL.cons (S.ret (C.and (C.f1 Fn1.isInt (C.var 0)) (C.and (C.not (C.f1 Fn1.isBool (C.var 0))) (C.chain Op.le Op.lt (C.cst (D.int 0)) (C.var 0) (C.var 1))))) SL.nil
def f_is_index : Fn := ⟨2, [], false, 2, b_is_index⟩
def b_is_entry : SL := SL.cons (S.iff (C.not (C.call 3 (CL.cons (C.var 0) CL.nil))) (SL.cons (S.ret (C.cst (D.bl false))) SL.nil) SL.nil) (SL.cons (S.set 1 (C.ix (C.call 29 (CL.cons (C.var 0) CL.nil)) (C.cst (D.int 0)))) (SL.cons (S.ret (C.and (C.notN (C.var 1)) (C.call 30 (CL.cons (C.var 1) CL.nil)))) SL.nil))
def f_is_entry : Fn := ⟨1, [], false, 2, b_is_entry⟩
def b_is_count : SL := SL.cons (S.ret (C.and (C.f1 Fn1.isInt (C.var 0)) (C.and (C.not (C.f1 Fn1.isBool (C.var 0))) (C.cmp Op.ge (C.var 0) (C.var 1))))) SL.nil
def f_is_count : Fn := ⟨2, [], false, 2, b_is_count⟩
def b__law_mixed : SL := SL.cons (S.set 2 (C.bin Op.mod (C.bin Op.add (C.bin Op.add (C.bin Op.add (C.bin Op.mod (C.var 0) (C.cst (D.int 1000000007))) (C.bin Op.mul (C.bin Op.mul (C.cst (D.int 7919)) (C.var 1)) (C.var 1))) (C.bin Op.mul (C.cst (D.int 31)) (C.var 1))) (C.cst (D.int 7))) (C.cst (D.int 2147483647)))) (SL.cons (S.set 2 (C.bin Op.mod (C.bin Op.mul (C.bin Op.mod (C.bin Op.mul (C.var 2) (C.var 2)) (C.cst (D.int 2147483647))) (C.var 2)) (C.cst (D.int 2147483629)))) (SL.cons (S.ret (C.bin Op.fdv (C.bin Op.mod (C.bin Op.mul (C.var 2) (C.bin Op.add (C.cst (D.int 69621)) (C.bin Op.mul (C.cst (D.int 2)) (C.bin Op.mod (C.var 1) (C.cst (D.int 1000)))))) (C.cst (D.int 2147483647))) (C.cst (D.int 7)))) SL.nil))
def f__law_mixed : Fn := ⟨2, [], false, 3, b__law_mixed⟩
def b__law_primary_end : SL := SL.cons (S.iff (C.cmp Op.isin (C.var 0) (C.tup (CL.cons (C.cst (D.str [115, 109, 97, 108, 108])) (CL.cons (C.cst (D.str [109, 111, 114, 101])) (CL.cons (C.cst (D.str [115, 117, 105, 116, 101])) CL.nil))))) (SL.cons (S.ret (C.ite (C.cmp Op.eq (C.var 1) (C.cst (D.str [110, 97, 109, 101]))) (C.cst (D.str [116, 97, 114, 103, 101, 116])) (C.cst (D.str [99, 104, 97, 105, 110])))) SL.nil) SL.nil) (SL.cons (S.ret (C.ite (C.and (C.cmp Op.eq (C.var 0) (C.cst (D.str [97, 114, 103, 117, 109, 101, 110, 116]))) (C.cmp Op.eq (C.var 1) (C.cst (D.str [110, 97, 109, 101])))) (C.cst (D.str [110, 97, 109, 101, 100])) (C.cst (D.str [100, 111, 110, 101])))) SL.nil)
def f__law_primary_end : Fn := ⟨2, [], false, 2, b__law_primary_end⟩
def b__law_operand : SL := SL.cons (S.sets [2, 3, 4, 5] (C.var 0)) (SL.cons (S.iff (C.cmp Op.isin (C.var 1) (C.tup (CL.cons (C.cst (D.str [110, 97, 109, 101])) (CL.cons (C.cst (D.str [116, 101, 120, 116])) CL.nil)))) (SL.cons (S.ret (C.tup (CL.cons (C.var 2) (CL.cons (C.var 3) (CL.cons (C.var 4) (CL.cons (C.call 36 (CL.cons (C.var 5) (CL.cons (C.var 1) CL.nil))) CL.nil)))))) SL.nil) SL.nil) (SL.cons (S.iff (C.cmp Op.eq (C.var 1) (C.cst (D.str [110, 117, 109, 98, 101, 114]))) (SL.cons (S.ret (C.tup (CL.cons (C.var 2) (CL.cons (C.var 3) (CL.cons (C.var 4) (CL.cons (C.cst (D.str [115, 101, 97, 108, 101, 100])) CL.nil)))))) SL.nil) SL.nil) (SL.cons (S.iff (C.cmp Op.isin (C.var 1) (C.tup (CL.cons (C.cst (D.str [45])) (CL.cons (C.cst (D.str [110, 111, 116])) CL.nil)))) (SL.cons (S.ret (C.tup (CL.cons (C.var 2) (CL.cons (C.var 3) (CL.cons (C.var 4) (CL.cons (C.cst (D.str [111, 112, 101, 114, 97, 110, 100])) CL.nil)))))) SL.nil) SL.nil) (SL.cons (S.iff (C.cmp Op.isin (C.var 1) (C.tup (CL.cons (C.cst (D.str [40])) (CL.cons (C.cst (D.str [91])) (CL.cons (C.cst (D.str [123])) CL.nil))))) (SL.cons (S.set 6 (C.ix (C.cdic [[40], [91], [123]] [[103, 114, 111, 117, 112], [108, 105, 115, 116], [107, 101, 121]]) (C.var 1))) (SL.cons (S.ret (C.tup (CL.cons (C.var 2) (CL.cons (C.var 3) (CL.cons (C.bin Op.add (C.var 4) (C.tup (CL.cons (C.tup (CL.cons (C.var 6) (CL.cons (C.call 36 (CL.cons (C.var 5) (CL.cons (C.cst (D.str [116, 101, 120, 116])) CL.nil))) CL.nil))) CL.nil))) (CL.cons (C.cst (D.str [99, 108, 111, 115, 101])) CL.nil)))))) SL.nil)) SL.nil) (SL.cons (S.iff (C.and (C.cmp Op.isin (C.var 5) (C.tup (CL.cons (C.cst (D.str [99, 108, 111, 115, 101])) (CL.cons (C.cst (D.str [97, 114, 103, 117, 109, 101, 110, 116])) CL.nil)))) (C.cmp Op.eq (C.call 38 (CL.cons (C.ix (C.ix (C.var 4) (C.neg (C.cst (D.int 1)))) (C.cst (D.int 0))) CL.nil)) (C.var 1))) (SL.cons (S.ret (C.tup (CL.cons (C.var 2) (CL.cons (C.var 3) (CL.cons (C.slice (C.var 4) CO.none (CO.some (C.neg (C.cst (D.int 1))))) (CL.cons (C.ix (C.ix (C.var 4) (C.neg (C.cst (D.int 1)))) (C.cst (D.int 1))) CL.nil)))))) SL.nil) SL.nil) (SL.cons (S.ret (C.ite (C.and (C.cmp Op.eq (C.var 5) (C.cst (D.str [118, 97, 108, 117, 101]))) (C.cmp Op.eq (C.var 1) (C.cst (D.str [59])))) (C.tup (CL.cons (C.var 2) (CL.cons (C.var 3) (CL.cons (C.var 4) (CL.cons (C.cst (D.str [109, 111, 114, 101])) CL.nil))))) (C.cst (D.non)))) SL.nil))))))
def f__law_operand : Fn := ⟨2, [], false, 7, b__law_operand⟩
def b__law_end_of : SL := SL.cons (S.set 1 (C.cdic [[103, 114, 111, 117, 112], [99, 97, 108, 108], [110, 97, 109, 101, 115], [108, 105, 115, 116], [105, 110, 100, 101, 120], [107, 101, 121], [105, 116, 101, 109]] [[41], [41], [41], [93], [93], [125], [125]])) (SL.cons (S.ret (C.dget (C.var 1) (C.var 0) (C.cst (D.str [])))) SL.nil)
def f__law_end_of : Fn := ⟨1, [], false, 2, b__law_end_of⟩
def b__law_behind : SL := SL.cons (S.sets [2, 3, 4, 5] (C.var 0)) (SL.cons (S.par 6 7 (C.ite (C.cmp Op.ne (C.var 4) (C.tup CL.nil)) (C.ix (C.ix (C.var 4) (C.neg (C.cst (D.int 1)))) (C.cst (D.int 0))) (C.cst (D.str []))) (C.cmp Op.isin (C.var 5) (C.tup (CL.cons (C.cst (D.str [116, 97, 114, 103, 101, 116])) (CL.cons (C.cst (D.str [99, 104, 97, 105, 110])) CL.nil))))) (SL.cons (S.iff (C.cmp Op.isin (C.var 1) (C.tup (CL.cons (C.cst (D.str [111, 112])) (CL.cons (C.cst (D.str [45])) (CL.cons (C.cst (D.str [61, 61])) (CL.cons (C.cst (D.str [97, 110, 100])) (CL.cons (C.cst (D.str [111, 114])) (CL.cons (C.cst (D.str [105, 110])) CL.nil)))))))) (SL.cons (S.ret (C.tup (CL.cons (C.var 2) (CL.cons (C.var 3) (CL.cons (C.var 4) (CL.cons (C.cst (D.str [111, 112, 101, 114, 97, 110, 100])) CL.nil)))))) SL.nil) SL.nil) (SL.cons (S.iff (C.cmp Op.eq (C.var 1) (C.cst (D.str [61]))) (SL.cons (S.set 8 (C.or (C.cmp Op.eq (C.var 5) (C.cst (D.str [110, 97, 109, 101, 100]))) (C.and (C.cmp Op.eq (C.var 5) (C.cst (D.str [116, 97, 114, 103, 101, 116]))) (C.and (C.cmp Op.eq (C.var 4) (C.tup CL.nil)) (C.cmp Op.eq (C.ix (C.var 3) (C.cst (D.int 0))) (C.cst (D.str [115, 109, 97, 108, 108]))))))) (SL.cons (S.ret (C.ite (C.var 8) (C.tup (CL.cons (C.var 2) (CL.cons (C.var 3) (CL.cons (C.var 4) (CL.cons (C.cst (D.str [111, 112, 101, 114, 97, 110, 100])) CL.nil))))) (C.cst (D.non)))) SL.nil)) SL.nil) (SL.cons (S.iff (C.and (C.cmp Op.isin (C.var 1) (C.tup (CL.cons (C.cst (D.str [46])) (CL.cons (C.cst (D.str [40])) (CL.cons (C.cst (D.str [91])) CL.nil))))) (C.cmp Op.ne (C.var 5) (C.cst (D.str [115, 101, 97, 108, 101, 100])))) (SL.cons (S.iff (C.cmp Op.eq (C.var 1) (C.cst (D.str [46]))) (SL.cons (S.ret (C.tup (CL.cons (C.var 2) (CL.cons (C.var 3) (CL.cons (C.var 4) (CL.cons (C.ite (C.var 7) (C.cst (D.str [99, 104, 97, 105, 110, 32, 110, 97, 109, 101])) (C.cst (D.str [110, 97, 109, 101]))) CL.nil)))))) SL.nil) SL.nil) (SL.cons (S.iff (C.cmp Op.eq (C.var 1) (C.cst (D.str [40]))) (SL.cons (S.ret (C.tup (CL.cons (C.var 2) (CL.cons (C.var 3) (CL.cons (C.bin Op.add (C.var 4) (C.tup (CL.cons (C.tup (CL.cons (C.cst (D.str [99, 97, 108, 108])) (CL.cons (C.ite (C.var 7) (C.cst (D.str [99, 104, 97, 105, 110])) (C.cst (D.str [100, 111, 110, 101]))) CL.nil))) CL.nil))) (CL.cons (C.cst (D.str [97, 114, 103, 117, 109, 101, 110, 116])) CL.nil)))))) SL.nil) SL.nil) (SL.cons (S.ret (C.tup (CL.cons (C.var 2) (CL.cons (C.var 3) (CL.cons (C.bin Op.add (C.var 4) (C.tup (CL.cons (C.tup (CL.cons (C.cst (D.str [105, 110, 100, 101, 120])) (CL.cons (C.ite (C.var 7) (C.cst (D.str [116, 97, 114, 103, 101, 116])) (C.cst (D.str [100, 111, 110, 101]))) CL.nil))) CL.nil))) (CL.cons (C.cst (D.str [111, 112, 101, 114, 97, 110, 100])) CL.nil)))))) SL.nil))) SL.nil) (SL.cons (S.iff (C.cmp Op.eq (C.var 1) (C.cst (D.str [44]))) (SL.cons (S.set 9 (C.dget (C.cdic [[103, 114, 111, 117, 112], [108, 105, 115, 116], [99, 97, 108, 108], [105, 116, 101, 109]] [[99, 108, 111, 115, 101], [99, 108, 111, 115, 101], [97, 114, 103, 117, 109, 101, 110, 116], [99, 108, 111, 115, 101]]) (C.var 6) (C.cst (D.non)))) (SL.cons (S.set 10 (C.ite (C.cmp Op.eq (C.var 6) (C.cst (D.str [105, 116, 101, 109]))) (C.cst (D.str [107, 101, 121])) (C.var 6))) (SL.cons (S.set 4 (C.ite (C.notN (C.var 9)) (C.bin Op.add (C.slice (C.var 4) CO.none (CO.some (C.neg (C.cst (D.int 1))))) (C.tup (CL.cons (C.tup (CL.cons (C.var 10) (CL.cons (C.ix (C.ix (C.var 4) (C.neg (C.cst (D.int 1)))) (C.cst (D.int 1))) CL.nil))) CL.nil))) (C.var 4))) (SL.cons (S.ret (C.ite (C.notN (C.var 9)) (C.tup (CL.cons (C.var 2) (CL.cons (C.var 3) (CL.cons (C.var 4) (CL.cons (C.var 9) CL.nil))))) (C.cst (D.non)))) SL.nil)))) SL.nil) (SL.cons (S.iff (C.and (C.cmp Op.eq (C.var 1) (C.cst (D.str [58]))) (C.cmp Op.eq (C.var 6) (C.cst (D.str [107, 101, 121])))) (SL.cons (S.ret (C.tup (CL.cons (C.var 2) (CL.cons (C.var 3) (CL.cons (C.bin Op.add (C.slice (C.var 4) CO.none (CO.some (C.neg (C.cst (D.int 1))))) (C.tup (CL.cons (C.tup (CL.cons (C.cst (D.str [105, 116, 101, 109])) (CL.cons (C.ix (C.ix (C.var 4) (C.neg (C.cst (D.int 1)))) (C.cst (D.int 1))) CL.nil))) CL.nil))) (CL.cons (C.cst (D.str [111, 112, 101, 114, 97, 110, 100])) CL.nil)))))) SL.nil) SL.nil) (SL.cons (S.iff (C.and (C.cmp Op.notin (C.var 6) (C.tup (CL.cons (C.cst (D.str [])) (CL.cons (C.cst (D.str [107, 101, 121])) (CL.cons (C.cst (D.str [110, 97, 109, 101, 115])) (CL.cons (C.cst (D.str [102, 105, 101, 108, 100])) CL.nil)))))) (C.cmp Op.eq (C.var 1) (C.call 38 (CL.cons (C.var 6) CL.nil)))) (SL.cons (S.ret (C.tup (CL.cons (C.var 2) (CL.cons (C.var 3) (CL.cons (C.slice (C.var 4) CO.none (CO.some (C.neg (C.cst (D.int 1))))) (CL.cons (C.ix (C.ix (C.var 4) (C.neg (C.cst (D.int 1)))) (C.cst (D.int 1))) CL.nil)))))) SL.nil) SL.nil) (SL.cons (S.ret (C.ite (C.cmp Op.eq (C.var 4) (C.tup CL.nil)) (C.call 40 (CL.cons (C.var 0) (CL.cons (C.var 1) CL.nil))) (C.cst (D.non)))) SL.nil))))))))
def f__law_behind : Fn := ⟨2, [], false, 11, b__law_behind⟩
def b__law_ended : SL := SL.cons (S.sets [2, 3, 4, 5] (C.var 0)) (SL.cons (S.iff (C.and (C.cmp Op.eq (C.var 1) (C.cst (D.str [58]))) (C.cmp Op.eq (C.ix (C.var 3) (C.cst (D.int 0))) (C.cst (D.str [104, 101, 97, 100])))) (SL.cons (S.ret (C.tup (CL.cons (C.var 2) (CL.cons (C.bin Op.add (C.bin Op.add (C.tup (CL.cons (C.cst (D.str [115, 109, 97, 108, 108])) CL.nil)) (C.slice (C.var 3) (CO.some (C.cst (D.int 1))) CO.none)) (C.tup (CL.cons (C.cst (D.bl false)) CL.nil))) (CL.cons (C.var 4) (CL.cons (C.cst (D.str [115, 117, 105, 116, 101])) CL.nil)))))) SL.nil) SL.nil) (SL.cons (S.ret (C.ite (C.and (C.cmp Op.eq (C.var 1) (C.cst (D.str [59]))) (C.cmp Op.eq (C.ix (C.var 3) (C.cst (D.int 0))) (C.cst (D.str [115, 109, 97, 108, 108])))) (C.tup (CL.cons (C.var 2) (CL.cons (C.var 3) (CL.cons (C.var 4) (CL.cons (C.cst (D.str [109, 111, 114, 101])) CL.nil))))) (C.cst (D.non)))) SL.nil))
def f__law_ended : Fn := ⟨2, [], false, 6, b__law_ended⟩
def b__law_begun : SL := SL.cons (S.sets [2, 3, 4, 5] (C.var 0)) (SL.cons (S.set 6 (C.slice (C.ix (C.var 2) (C.neg (C.cst (D.int 1)))) (CO.some (C.cst (D.int 2))) CO.none)) (SL.cons (S.iff (C.or (C.cmp Op.isin (C.var 1) (C.m1 Mt1.split (C.m1 Mt1.strip (C.ix (C.var 3) (C.cst (D.int 1))) (C.cst (D.str [33]))) (C.cst (D.str [32])))) (C.and (C.cmp Op.eq (C.var 5) (C.cst (D.str [108, 105, 110, 101]))) (C.cmp Op.isin (C.var 1) (C.tup (CL.cons (C.cst (D.str [105, 102])) (CL.cons (C.cst (D.str [119, 104, 105, 108, 101])) (CL.cons (C.cst (D.str [102, 111, 114])) (CL.cons (C.cst (D.str [100, 101, 102])) (CL.cons (C.cst (D.str [116, 114, 121])) CL.nil))))))))) (SL.cons (S.set 7 (C.ite (C.cmp Op.eq (C.var 1) (C.cst (D.str [100, 101, 102]))) (C.tup (CL.cons (C.cst (D.bl true)) (CL.cons (C.cst (D.bl false)) CL.nil))) (C.tup (CL.cons (C.ix (C.var 6) (C.cst (D.int 0))) (CL.cons (C.or (C.ix (C.var 6) (C.cst (D.int 1))) (C.cmp Op.isin (C.var 1) (C.tup (CL.cons (C.cst (D.str [119, 104, 105, 108, 101])) (CL.cons (C.cst (D.str [102, 111, 114])) CL.nil))))) CL.nil))))) (SL.cons (S.set 8 (C.cdic [[101, 108, 115, 101], [116, 114, 121], [102, 105, 110, 97, 108, 108, 121]] [[99, 111, 108, 111, 110], [99, 111, 108, 111, 110], [99, 111, 108, 111, 110]])) (SL.cons (S.set 8 (C.f1 Fn1.dict (C.bin Op.add (C.items (C.var 8)) (C.lcomp 10 (C.tup (CL.cons (C.cst (D.str [100, 101, 102])) (CL.cons (C.cst (D.str [102, 111, 114])) (CL.cons (C.cst (D.str [101, 120, 99, 101, 112, 116])) CL.nil)))) CO.none (C.tup (CL.cons (C.var 10) (CL.cons (C.var 10) CL.nil))))))) (SL.cons (S.set 9 (C.cdic [[105, 102], [101, 108, 105, 102], [116, 114, 121], [101, 120, 99, 101, 112, 116]] [[101, 108, 105, 102, 32, 101, 108, 115, 101], [101, 108, 105, 102, 32, 101, 108, 115, 101], [101, 120, 99, 101, 112, 116, 32, 102, 105, 110, 97, 108, 108, 121, 33], [101, 120, 99, 101, 112, 116, 32, 102, 105, 110, 97, 108, 108, 121]])) (SL.cons (S.ret (C.tup (CL.cons (C.var 2) (CL.cons (C.bin Op.add (C.tup (CL.cons (C.cst (D.str [104, 101, 97, 100])) (CL.cons (C.dget (C.var 9) (C.var 1) (C.cst (D.str []))) CL.nil))) (C.var 7)) (CL.cons (C.tup CL.nil) (CL.cons (C.dget (C.var 8) (C.var 1) (C.cst (D.str [111, 112, 101, 114, 97, 110, 100]))) CL.nil)))))) SL.nil))))) SL.nil) (SL.cons (S.iff (C.cmp Op.eq (C.var 5) (C.cst (D.str [99, 108, 97, 117, 115, 101]))) (SL.cons (S.ret (C.cst (D.non))) SL.nil) SL.nil) (SL.cons (S.ret (C.call 42 (CL.cons (C.tup (CL.cons (C.var 2) (CL.cons (C.bin Op.add (C.bin Op.add (C.tup (CL.cons (C.cst (D.str [115, 109, 97, 108, 108])) (CL.cons (C.cst (D.str [])) CL.nil))) (C.var 6)) (C.tup (CL.cons (C.ix (C.var 3) (C.cst (D.int 2))) CL.nil))) (CL.cons (C.tup CL.nil) (CL.cons (C.cst (D.str [115, 109, 97, 108, 108])) CL.nil))))) (CL.cons (C.var 1) CL.nil)))) SL.nil))))
def f__law_begun : Fn := ⟨2, [], false, 11, b__law_begun⟩
def b__law_step : SL := SL.cons (S.sets [2, 3, 4, 5] (C.var 0)) (SL.cons (S.iff (C.cmp Op.isin (C.var 5) (C.tup (CL.cons (C.cst (D.str [108, 105, 110, 101])) (CL.cons (C.cst (D.str [99, 108, 97, 117, 115, 101])) CL.nil)))) (SL.cons (S.ret (C.call 41 (CL.cons (C.var 0) (CL.cons (C.var 1) CL.nil)))) SL.nil) SL.nil) (SL.cons (S.iff (C.and (C.cmp Op.isin (C.var 5) (C.tup (CL.cons (C.cst (D.str [115, 109, 97, 108, 108])) (CL.cons (C.cst (D.str [109, 111, 114, 101])) (CL.cons (C.cst (D.str [115, 117, 105, 116, 101])) CL.nil))))) (C.cmp Op.isin (C.var 1) (C.tup (CL.cons (C.cst (D.str [112, 97, 115, 115])) (CL.cons (C.cst (D.str [98, 114, 101, 97, 107])) (CL.cons (C.cst (D.str [114, 101, 116, 117, 114, 110])) CL.nil)))))) (SL.cons (S.iff (C.cmp Op.eq (C.var 1) (C.cst (D.str [114, 101, 116, 117, 114, 110]))) (SL.cons (S.ret (C.ite (C.ix (C.var 3) (C.cst (D.int 2))) (C.tup (CL.cons (C.var 2) (CL.cons (C.var 3) (CL.cons (C.var 4) (CL.cons (C.cst (D.str [118, 97, 108, 117, 101])) CL.nil))))) (C.cst (D.non)))) SL.nil) SL.nil) (SL.cons (S.ret (C.ite (C.or (C.cmp Op.eq (C.var 1) (C.cst (D.str [112, 97, 115, 115]))) (C.ix (C.var 3) (C.cst (D.int 3)))) (C.tup (CL.cons (C.var 2) (CL.cons (C.var 3) (CL.cons (C.var 4) (CL.cons (C.cst (D.str [101, 110, 100])) CL.nil))))) (C.cst (D.non)))) SL.nil)) SL.nil) (SL.cons (S.iff (C.cmp Op.isin (C.var 5) (C.tup (CL.cons (C.cst (D.str [115, 109, 97, 108, 108])) (CL.cons (C.cst (D.str [109, 111, 114, 101])) (CL.cons (C.cst (D.str [115, 117, 105, 116, 101])) (CL.cons (C.cst (D.str [118, 97, 108, 117, 101])) (CL.cons (C.cst (D.str [111, 112, 101, 114, 97, 110, 100])) (CL.cons (C.cst (D.str [99, 108, 111, 115, 101])) (CL.cons (C.cst (D.str [97, 114, 103, 117, 109, 101, 110, 116])) CL.nil))))))))) (SL.cons (S.ret (C.call 37 (CL.cons (C.var 0) (CL.cons (C.var 1) CL.nil)))) SL.nil) SL.nil) (SL.cons (S.iff (C.cmp Op.isin (C.var 5) (C.tup (CL.cons (C.cst (D.str [116, 97, 114, 103, 101, 116])) (CL.cons (C.cst (D.str [99, 104, 97, 105, 110])) (CL.cons (C.cst (D.str [100, 111, 110, 101])) (CL.cons (C.cst (D.str [115, 101, 97, 108, 101, 100])) (CL.cons (C.cst (D.str [110, 97, 109, 101, 100])) CL.nil))))))) (SL.cons (S.ret (C.call 39 (CL.cons (C.var 0) (CL.cons (C.var 1) CL.nil)))) SL.nil) SL.nil) (SL.cons (S.iff (C.or (C.cmp Op.isin (C.var 5) (C.tup (CL.cons (C.cst (D.str [101, 110, 100])) (CL.cons (C.cst (D.str [99, 111, 108, 111, 110])) CL.nil)))) (C.and (C.cmp Op.eq (C.var 5) (C.cst (D.str [101, 120, 99, 101, 112, 116]))) (C.cmp Op.eq (C.var 1) (C.cst (D.str [58]))))) (SL.cons (S.ret (C.call 40 (CL.cons (C.var 0) (CL.cons (C.var 1) CL.nil)))) SL.nil) SL.nil) (SL.cons (S.set 6 (C.cdic [[110, 97, 109, 101, 32, 110, 97, 109, 101], [99, 104, 97, 105, 110, 32, 110, 97, 109, 101, 32, 110, 97, 109, 101], [100, 101, 102, 32, 110, 97, 109, 101], [102, 111, 114, 32, 110, 97, 109, 101]] [[100, 111, 110, 101], [116, 97, 114, 103, 101, 116], [111, 112, 101, 110], [102, 111, 114, 32, 105, 110]])) (SL.cons (S.iff (C.cmp Op.isin (C.bin Op.add (C.bin Op.add (C.var 5) (C.cst (D.str [32]))) (C.var 1)) (C.var 6)) (SL.cons (S.ret (C.tup (CL.cons (C.var 2) (CL.cons (C.var 3) (CL.cons (C.var 4) (CL.cons (C.ix (C.var 6) (C.bin Op.add (C.bin Op.add (C.var 5) (C.cst (D.str [32]))) (C.var 1))) CL.nil)))))) SL.nil) SL.nil) (SL.cons (S.set 6 (C.cdic [[102, 111, 114, 32, 105, 110, 32, 105, 110], [101, 120, 99, 101, 112, 116, 32, 110, 97, 109, 101], [110, 97, 109, 101, 115, 32, 110, 97, 109, 101], [109, 111, 114, 101, 32, 110, 97, 109, 101, 115, 32, 44]] [[111, 112, 101, 114, 97, 110, 100], [99, 111, 108, 111, 110], [109, 111, 114, 101, 32, 110, 97, 109, 101, 115], [110, 97, 109, 101, 115]])) (SL.cons (S.iff (C.cmp Op.isin (C.bin Op.add (C.bin Op.add (C.var 5) (C.cst (D.str [32]))) (C.var 1)) (C.var 6)) (SL.cons (S.ret (C.tup (CL.cons (C.var 2) (CL.cons (C.var 3) (CL.cons (C.var 4) (CL.cons (C.ix (C.var 6) (C.bin Op.add (C.bin Op.add (C.var 5) (C.cst (D.str [32]))) (C.var 1))) CL.nil)))))) SL.nil) SL.nil) (SL.cons (S.iff (C.and (C.cmp Op.eq (C.var 5) (C.cst (D.str [111, 112, 101, 110]))) (C.cmp Op.eq (C.var 1) (C.cst (D.str [40])))) (SL.cons (S.ret (C.tup (CL.cons (C.var 2) (CL.cons (C.var 3) (CL.cons (C.tup (CL.cons (C.tup (CL.cons (C.cst (D.str [110, 97, 109, 101, 115])) (CL.cons (C.cst (D.str [99, 111, 108, 111, 110])) CL.nil))) CL.nil)) (CL.cons (C.cst (D.str [110, 97, 109, 101, 115])) CL.nil)))))) SL.nil) SL.nil) (SL.cons (S.ret (C.ite (C.and (C.cmp Op.isin (C.var 5) (C.tup (CL.cons (C.cst (D.str [110, 97, 109, 101, 115])) (CL.cons (C.cst (D.str [109, 111, 114, 101, 32, 110, 97, 109, 101, 115])) CL.nil)))) (C.cmp Op.eq (C.var 1) (C.cst (D.str [41])))) (C.tup (CL.cons (C.var 2) (CL.cons (C.var 3) (CL.cons (C.tup CL.nil) (CL.cons (C.cst (D.str [99, 111, 108, 111, 110])) CL.nil))))) (C.cst (D.non)))) SL.nil)))))))))))
def f__law_step : Fn := ⟨2, [], false, 7, b__law_step⟩
def b__law_line_end : SL := SL.cons (S.sets [1, 2, 3, 4] (C.var 0)) (SL.cons (S.iff (C.or (C.cmp Op.ne (C.ix (C.var 2) (C.cst (D.int 0))) (C.cst (D.str [115, 109, 97, 108, 108]))) (C.cmp Op.notin (C.var 4) (C.tup (CL.cons (C.cst (D.str [116, 97, 114, 103, 101, 116])) (CL.cons (C.cst (D.str [99, 104, 97, 105, 110])) (CL.cons (C.cst (D.str [100, 111, 110, 101])) (CL.cons (C.cst (D.str [115, 101, 97, 108, 101, 100])) (CL.cons (C.cst (D.str [101, 110, 100])) (CL.cons (C.cst (D.str [118, 97, 108, 117, 101])) (CL.cons (C.cst (D.str [109, 111, 114, 101])) (CL.cons (C.cst (D.str [115, 117, 105, 116, 101])) CL.nil))))))))))) (SL.cons (S.ret (C.cst (D.non))) SL.nil) SL.nil) (SL.cons (S.iff (C.ix (C.var 2) (C.cst (D.int 4))) (SL.cons (S.ret (C.tup (CL.cons (C.tup CL.nil) (CL.cons (C.tup (CL.cons (C.cst (D.str [111, 118, 101, 114])) CL.nil)) (CL.cons (C.tup CL.nil) (CL.cons (C.cst (D.str [])) CL.nil)))))) SL.nil) SL.nil) (SL.cons (S.set 5 (C.ite (C.cmp Op.eq (C.var 4) (C.cst (D.str [115, 117, 105, 116, 101]))) (C.slice (C.var 2) (CO.some (C.cst (D.int 2))) (CO.some (C.cst (D.int 4)))) (C.tup CL.nil))) (SL.cons (S.ret (C.tup (CL.cons (C.bin Op.add (C.slice (C.var 1) CO.none (CO.some (C.neg (C.cst (D.int 1))))) (C.tup (CL.cons (C.bin Op.add (C.tup (CL.cons (C.ix (C.ix (C.var 1) (C.neg (C.cst (D.int 1)))) (C.cst (D.int 0))) (CL.cons (C.ix (C.var 2) (C.cst (D.int 1))) CL.nil))) (C.slice (C.ix (C.var 1) (C.neg (C.cst (D.int 1)))) (CO.some (C.cst (D.int 2))) CO.none)) CL.nil))) (CL.cons (C.tup (CL.cons (C.cst (D.str [102, 114, 111, 110, 116])) (CL.cons (C.cst (D.int 0)) (CL.cons (C.var 5) CL.nil)))) (CL.cons (C.tup CL.nil) (CL.cons (C.cst (D.str [])) CL.nil)))))) SL.nil))))
def f__law_line_end : Fn := ⟨1, [], false, 6, b__law_line_end⟩
def b__law_is_wordy : SL := SL.cons (S.ret (C.cmp Op.isin (C.var 0) (C.cst (D.str [97, 98, 99, 100, 101, 102, 103, 104, 105, 106, 107, 108, 109, 110, 111, 112, 113, 114, 115, 116, 117, 118, 119, 120, 121, 122, 65, 66, 67, 68, 69, 70, 71, 72, 73, 74, 75, 76, 77, 78, 79, 80, 81, 82, 83, 84, 85, 86, 87, 88, 89, 90, 95, 48, 49, 50, 51, 52, 53, 54, 55, 56, 57])))) SL.nil
def f__law_is_wordy : Fn := ⟨1, [], false, 1, b__law_is_wordy⟩
def b__law_keywords : SL := SL.cons (S.set 0 (C.lst (CL.cons (C.cst (D.str [97, 110, 100])) (CL.cons (C.cst (D.str [98, 114, 101, 97, 107])) (CL.cons (C.cst (D.str [100, 101, 102])) (CL.cons (C.cst (D.str [101, 108, 105, 102])) (CL.cons (C.cst (D.str [101, 108, 115, 101])) (CL.cons (C.cst (D.str [101, 120, 99, 101, 112, 116])) (CL.cons (C.cst (D.str [102, 105, 110, 97, 108, 108, 121])) (CL.cons (C.cst (D.str [102, 111, 114])) (CL.cons (C.cst (D.str [105, 102])) (CL.cons (C.cst (D.str [105, 110])) (CL.cons (C.cst (D.str [110, 111, 116])) (CL.cons (C.cst (D.str [111, 114])) (CL.cons (C.cst (D.str [112, 97, 115, 115])) CL.nil))))))))))))))) (SL.cons (S.ret (C.bin Op.add (C.var 0) (C.lst (CL.cons (C.cst (D.str [114, 101, 116, 117, 114, 110])) (CL.cons (C.cst (D.str [116, 114, 121])) (CL.cons (C.cst (D.str [119, 104, 105, 108, 101])) CL.nil)))))) SL.nil)
def f__law_keywords : Fn := ⟨0, [], false, 1, b__law_keywords⟩
def b__law_can : SL := SL.cons (S.iff (C.notN (C.call 42 (CL.cons (C.var 0) (CL.cons (C.cst (D.str [110, 97, 109, 101])) CL.nil)))) (SL.cons (S.ret (C.cst (D.bl true))) SL.nil) SL.nil) (SL.cons (S.set 2 (C.lcomp 3 (C.call 45 CL.nil) (CO.some (C.cmp Op.eq (C.slice (C.var 3) CO.none (CO.some (C.f1 Fn1.len (C.var 1)))) (C.var 1))) (C.var 3))) (SL.cons (S.ret (C.cmp Op.ne (C.lcomp 3 (C.var 2) (CO.some (C.notN (C.call 42 (CL.cons (C.var 0) (CL.cons (C.var 3) CL.nil))))) (C.var 3)) (C.lst CL.nil))) SL.nil))
def f__law_can : Fn := ⟨2, [], false, 4, b__law_can⟩
def b__law_line_begun : SL := SL.cons (S.set 1 (C.ix (C.var 0) (C.cst (D.int 0)))) (SL.cons (S.sets [2, 3, 4] (C.ix (C.var 0) (C.cst (D.int 1)))) (SL.cons (S.iff (C.cmp Op.eq (C.var 1) (C.tup CL.nil)) (SL.cons (S.ret (C.ite (C.cmp Op.eq (C.var 3) (C.cst (D.int 0))) (C.tup (CL.cons (C.tup (CL.cons (C.tup (CL.cons (C.cst (D.int 0)) (CL.cons (C.cst (D.str [])) (CL.cons (C.cst (D.bl false)) (CL.cons (C.cst (D.bl false)) CL.nil))))) CL.nil)) (CL.cons (C.tup (CL.cons (C.cst (D.str [108, 105, 110, 101])) (CL.cons (C.cst (D.str [])) (CL.cons (C.cst (D.bl true)) CL.nil)))) (CL.cons (C.tup CL.nil) (CL.cons (C.cst (D.str [108, 105, 110, 101])) CL.nil))))) (C.cst (D.non)))) SL.nil) SL.nil) (SL.cons (S.iff (C.cmp Op.ne (C.var 4) (C.tup CL.nil)) (SL.cons (S.set 5 (C.tup (CL.cons (C.bin Op.add (C.var 1) (C.tup (CL.cons (C.bin Op.add (C.tup (CL.cons (C.var 3) (CL.cons (C.cst (D.str [])) CL.nil))) (C.var 4)) CL.nil))) (CL.cons (C.tup (CL.cons (C.cst (D.str [108, 105, 110, 101])) (CL.cons (C.cst (D.str [])) (CL.cons (C.cst (D.bl false)) CL.nil)))) (CL.cons (C.tup CL.nil) (CL.cons (C.cst (D.str [108, 105, 110, 101])) CL.nil)))))) (SL.cons (S.ret (C.ite (C.cmp Op.gt (C.var 3) (C.ix (C.ix (C.var 1) (C.neg (C.cst (D.int 1)))) (C.cst (D.int 0)))) (C.var 5) (C.cst (D.non)))) SL.nil)) SL.nil) (SL.cons (S.whil (C.and (C.cmp Op.gt (C.ix (C.ix (C.var 1) (C.neg (C.cst (D.int 1)))) (C.cst (D.int 0))) (C.var 3)) (C.cmp Op.ne (C.slice (C.ix (C.ix (C.var 1) (C.neg (C.cst (D.int 1)))) (C.cst (D.int 1))) (CO.some (C.neg (C.cst (D.int 1)))) CO.none) (C.cst (D.str [33])))) (SL.cons (S.set 1 (C.slice (C.var 1) CO.none (CO.some (C.neg (C.cst (D.int 1)))))) SL.nil)) (SL.cons (S.sets [6, 7] (C.slice (C.ix (C.var 1) (C.neg (C.cst (D.int 1)))) CO.none (CO.some (C.cst (D.int 2))))) (SL.cons (S.set 1 (C.bin Op.add (C.slice (C.var 1) CO.none (CO.some (C.neg (C.cst (D.int 1))))) (C.tup (CL.cons (C.bin Op.add (C.tup (CL.cons (C.var 6) (CL.cons (C.cst (D.str [])) CL.nil))) (C.slice (C.ix (C.var 1) (C.neg (C.cst (D.int 1)))) (CO.some (C.cst (D.int 2))) CO.none)) CL.nil)))) (SL.cons (S.set 8 (C.ite (C.or (C.cmp Op.eq (C.var 6) (C.cst (D.int 0))) (C.cmp Op.eq (C.slice (C.var 7) (CO.some (C.neg (C.cst (D.int 1)))) CO.none) (C.cst (D.str [33])))) (C.cst (D.str [99, 108, 97, 117, 115, 101])) (C.cst (D.str [108, 105, 110, 101])))) (SL.cons (S.ret (C.ite (C.cmp Op.eq (C.var 6) (C.var 3)) (C.tup (CL.cons (C.var 1) (CL.cons (C.tup (CL.cons (C.cst (D.str [108, 105, 110, 101])) (CL.cons (C.var 7) (CL.cons (C.cst (D.bl false)) CL.nil)))) (CL.cons (C.tup CL.nil) (CL.cons (C.var 8) CL.nil))))) (C.cst (D.non)))) SL.nil))))))))
def f__law_line_begun : Fn := ⟨1, [], false, 9, b__law_line_begun⟩
def b__law_front : SL := SL.cons (S.set 2 (C.ix (C.var 0) (C.cst (D.int 0)))) (SL.cons (S.sets [3, 4, 5] (C.ix (C.var 0) (C.cst (D.int 1)))) (SL.cons (S.iff (C.cmp Op.eq (C.var 1) (C.cst (D.str [32]))) (SL.cons (S.ret (C.tup (CL.cons (C.tup (CL.cons (C.var 2) (CL.cons (C.tup (CL.cons (C.var 3) (CL.cons (C.bin Op.add (C.var 4) (C.cst (D.int 1))) (CL.cons (C.var 5) CL.nil)))) (CL.cons (C.tup CL.nil) (CL.cons (C.cst (D.str [])) CL.nil))))) (CL.cons (C.tup CL.nil) CL.nil)))) SL.nil) SL.nil) (SL.cons (S.iff (C.cmp Op.eq (C.var 1) (C.cst (D.str [35]))) (SL.cons (S.ret (C.tup (CL.cons (C.var 0) (CL.cons (C.tup (CL.cons (C.cst (D.str [99, 111, 109, 109, 101, 110, 116])) CL.nil)) CL.nil)))) SL.nil) SL.nil) (SL.cons (S.iff (C.cmp Op.ne (C.var 1) (C.cst (D.str [10]))) (SL.cons (S.set 6 (C.ite (C.cmp Op.ne (C.var 1) (C.cst (D.str [92]))) (C.call 47 (CL.cons (C.var 0) CL.nil)) (C.cst (D.non)))) (SL.cons (S.ret (C.ite (C.isN (C.var 6)) (C.cst (D.non)) (C.call 49 (CL.cons (C.var 6) (CL.cons (C.var 1) CL.nil))))) SL.nil)) SL.nil) (SL.cons (S.iff (C.cmp Op.eq (C.var 2) (C.tup CL.nil)) (SL.cons (S.ret (C.tup (CL.cons (C.tup (CL.cons (C.tup CL.nil) (CL.cons (C.tup (CL.cons (C.cst (D.str [102, 114, 111, 110, 116])) (CL.cons (C.cst (D.int 0)) (CL.cons (C.tup CL.nil) CL.nil)))) (CL.cons (C.tup CL.nil) (CL.cons (C.cst (D.str [])) CL.nil))))) (CL.cons (C.tup CL.nil) CL.nil)))) SL.nil) SL.nil) (SL.cons (S.iff (C.or (C.cmp Op.ne (C.var 5) (C.tup CL.nil)) (C.cmp Op.ne (C.lcomp 7 (C.var 2) (CO.some (C.cmp Op.eq (C.slice (C.ix (C.var 7) (C.cst (D.int 1))) (CO.some (C.neg (C.cst (D.int 1)))) CO.none) (C.cst (D.str [33])))) (C.var 7)) (C.lst CL.nil))) (SL.cons (S.ret (C.cst (D.non))) SL.nil) SL.nil) (SL.cons (S.ret (C.tup (CL.cons (C.tup (CL.cons (C.tup CL.nil) (CL.cons (C.tup (CL.cons (C.cst (D.str [111, 118, 101, 114])) CL.nil)) (CL.cons (C.tup CL.nil) (CL.cons (C.cst (D.str [])) CL.nil))))) (CL.cons (C.tup CL.nil) CL.nil)))) SL.nil)))))))
def f__law_front : Fn := ⟨2, [], false, 8, b__law_front⟩
def b__law_code : SL := SL.cons (S.sets [2, 3, 4, 5] (C.var 0)) (SL.cons (S.iff (C.or (C.cmp Op.eq (C.ix (C.var 3) (C.cst (D.int 0))) (C.cst (D.str [111, 118, 101, 114]))) (C.cmp Op.eq (C.ix (C.var 3) (C.cst (D.int 0))) (C.cst (D.str [102, 114, 111, 110, 116])))) (SL.cons (S.ret (C.ite (C.cmp Op.eq (C.ix (C.var 3) (C.cst (D.int 0))) (C.cst (D.str [111, 118, 101, 114]))) (C.cst (D.non)) (C.call 48 (CL.cons (C.var 0) (CL.cons (C.var 1) CL.nil))))) SL.nil) SL.nil) (SL.cons (S.iff (C.or (C.cmp Op.eq (C.var 1) (C.cst (D.str [32]))) (C.and (C.cmp Op.eq (C.var 1) (C.cst (D.str [10]))) (C.cmp Op.ne (C.var 4) (C.tup CL.nil)))) (SL.cons (S.ret (C.tup (CL.cons (C.var 0) (CL.cons (C.tup CL.nil) CL.nil)))) SL.nil) SL.nil) (SL.cons (S.set 6 (C.call 43 (CL.cons (C.var 0) CL.nil))) (SL.cons (S.iff (C.cmp Op.eq (C.var 1) (C.cst (D.str [10]))) (SL.cons (S.ret (C.ite (C.notN (C.var 6)) (C.tup (CL.cons (C.var 6) (CL.cons (C.tup CL.nil) CL.nil))) (C.cst (D.non)))) SL.nil) SL.nil) (SL.cons (S.iff (C.or (C.cmp Op.eq (C.var 1) (C.cst (D.str [92]))) (C.and (C.cmp Op.eq (C.var 1) (C.cst (D.str [35]))) (C.or (C.cmp Op.ne (C.var 4) (C.tup CL.nil)) (C.notN (C.var 6))))) (SL.cons (S.ret (C.tup (CL.cons (C.var 0) (CL.cons (C.ite (C.cmp Op.eq (C.var 1) (C.cst (D.str [92]))) (C.tup (CL.cons (C.cst (D.str [106, 111, 105, 110])) CL.nil)) (C.tup (CL.cons (C.cst (D.str [99, 111, 109, 109, 101, 110, 116])) CL.nil))) CL.nil)))) SL.nil) SL.nil) (SL.cons (S.iff (C.call 44 (CL.cons (C.var 1) CL.nil)) (SL.cons (S.iff (C.cmp Op.isin (C.var 1) (C.cst (D.str [48, 49, 50, 51, 52, 53, 54, 55, 56, 57]))) (SL.cons (S.ret (C.ite (C.notN (C.call 42 (CL.cons (C.var 0) (CL.cons (C.cst (D.str [110, 117, 109, 98, 101, 114])) CL.nil)))) (C.tup (CL.cons (C.var 0) (CL.cons (C.tup (CL.cons (C.cst (D.str [110, 117, 109, 98, 101, 114])) (CL.cons (C.var 1) CL.nil))) CL.nil))) (C.cst (D.non)))) SL.nil) SL.nil) (SL.cons (S.ret (C.ite (C.call 46 (CL.cons (C.var 0) (CL.cons (C.var 1) CL.nil))) (C.tup (CL.cons (C.var 0) (CL.cons (C.tup (CL.cons (C.cst (D.str [119, 111, 114, 100])) (CL.cons (C.var 1) CL.nil))) CL.nil))) (C.cst (D.non)))) SL.nil)) SL.nil) (SL.cons (S.iff (C.cmp Op.isin (C.var 1) (C.cst (D.str [39, 34, 36]))) (SL.cons (S.set 7 (C.ite (C.cmp Op.eq (C.var 1) (C.cst (D.str [36]))) (C.tup (CL.cons (C.cst (D.str [100, 111, 108, 108, 97, 114])) CL.nil)) (C.tup (CL.cons (C.cst (D.str [113, 117, 111, 116, 101])) (CL.cons (C.var 1) CL.nil))))) (SL.cons (S.ret (C.ite (C.notN (C.call 42 (CL.cons (C.var 0) (CL.cons (C.cst (D.str [116, 101, 120, 116])) CL.nil)))) (C.tup (CL.cons (C.var 0) (CL.cons (C.var 7) CL.nil))) (C.cst (D.non)))) SL.nil)) SL.nil) (SL.cons (S.iff (C.cmp Op.isin (C.var 1) (C.cst (D.str [60, 62, 61, 33]))) (SL.cons (S.ret (C.ite (C.notN (C.call 42 (CL.cons (C.var 0) (CL.cons (C.cst (D.str [61, 61])) CL.nil)))) (C.tup (CL.cons (C.var 0) (CL.cons (C.tup (CL.cons (C.cst (D.str [111, 112])) (CL.cons (C.var 1) CL.nil))) CL.nil))) (C.cst (D.non)))) SL.nil) SL.nil) (SL.cons (S.set 8 (C.cmp Op.isin (C.var 5) (C.tup (CL.cons (C.cst (D.str [116, 97, 114, 103, 101, 116])) (CL.cons (C.cst (D.str [99, 104, 97, 105, 110])) (CL.cons (C.cst (D.str [100, 111, 110, 101])) (CL.cons (C.cst (D.str [115, 101, 97, 108, 101, 100])) (CL.cons (C.cst (D.str [110, 97, 109, 101, 100])) CL.nil)))))))) (SL.cons (S.iff (C.and (C.cmp Op.eq (C.var 1) (C.cst (D.str [125]))) (C.and (C.cmp Op.ne (C.var 4) (C.tup CL.nil)) (C.and (C.cmp Op.eq (C.ix (C.ix (C.var 4) (C.neg (C.cst (D.int 1)))) (C.cst (D.int 0))) (C.cst (D.str [102, 105, 101, 108, 100]))) (C.var 8)))) (SL.cons (S.ret (C.tup (CL.cons (C.tup (CL.cons (C.var 2) (CL.cons (C.var 3) (CL.cons (C.slice (C.var 4) CO.none (CO.some (C.neg (C.cst (D.int 1))))) (CL.cons (C.ix (C.ix (C.var 4) (C.neg (C.cst (D.int 1)))) (C.cst (D.int 1))) CL.nil))))) (CL.cons (C.tup (CL.cons (C.cst (D.str [116, 101, 109, 112, 108, 97, 116, 101])) (CL.cons (C.cst (D.bl false)) CL.nil))) CL.nil)))) SL.nil) SL.nil) (SL.cons (S.set 0 (C.call 42 (CL.cons (C.var 0) (CL.cons (C.ite (C.cmp Op.isin (C.var 1) (C.cst (D.str [43, 42, 47]))) (C.cst (D.str [111, 112])) (C.var 1)) CL.nil)))) (SL.cons (S.ret (C.ite (C.notN (C.var 0)) (C.tup (CL.cons (C.var 0) (CL.cons (C.tup CL.nil) CL.nil))) (C.cst (D.non)))) SL.nil))))))))))))
def f__law_code : Fn := ⟨2, [], false, 9, b__law_code⟩
def b__law_in_text : SL := SL.cons (S.iff (C.cmp Op.eq (C.ix (C.var 1) (C.cst (D.int 0))) (C.cst (D.str [108, 111, 110, 103]))) (SL.cons (S.sets [3, 4, 5, 6] (C.var 1)) (SL.cons (S.iff (C.or (C.var 6) (C.cmp Op.notin (C.var 2) (C.tup (CL.cons (C.var 4) (CL.cons (C.cst (D.str [92])) CL.nil))))) (SL.cons (S.ret (C.tup (CL.cons (C.var 0) (CL.cons (C.tup (CL.cons (C.cst (D.str [108, 111, 110, 103])) (CL.cons (C.var 4) (CL.cons (C.cst (D.int 0)) (CL.cons (C.cst (D.bl false)) CL.nil))))) CL.nil)))) SL.nil) SL.nil) (SL.cons (S.iff (C.cmp Op.eq (C.var 2) (C.cst (D.str [92]))) (SL.cons (S.ret (C.tup (CL.cons (C.var 0) (CL.cons (C.tup (CL.cons (C.cst (D.str [108, 111, 110, 103])) (CL.cons (C.var 4) (CL.cons (C.cst (D.int 0)) (CL.cons (C.cst (D.bl true)) CL.nil))))) CL.nil)))) SL.nil) SL.nil) (SL.cons (S.ret (C.ite (C.cmp Op.eq (C.var 5) (C.cst (D.int 2))) (C.tup (CL.cons (C.call 42 (CL.cons (C.var 0) (CL.cons (C.cst (D.str [116, 101, 120, 116])) CL.nil))) (CL.cons (C.tup CL.nil) CL.nil))) (C.tup (CL.cons (C.var 0) (CL.cons (C.tup (CL.cons (C.cst (D.str [108, 111, 110, 103])) (CL.cons (C.var 4) (CL.cons (C.bin Op.add (C.var 5) (C.cst (D.int 1))) (CL.cons (C.cst (D.bl false)) CL.nil))))) CL.nil))))) SL.nil)))) SL.nil) (SL.cons (S.iff (C.cmp Op.eq (C.var 2) (C.cst (D.str [10]))) (SL.cons (S.ret (C.cst (D.non))) SL.nil) SL.nil) (SL.cons (S.iff (C.cmp Op.eq (C.ix (C.var 1) (C.cst (D.int 0))) (C.cst (D.str [115, 104, 111, 114, 116]))) (SL.cons (S.iff (C.and (C.cmp Op.eq (C.var 2) (C.ix (C.var 1) (C.cst (D.int 1)))) (C.not (C.ix (C.var 1) (C.cst (D.int 2))))) (SL.cons (S.ret (C.tup (CL.cons (C.call 42 (CL.cons (C.var 0) (CL.cons (C.cst (D.str [116, 101, 120, 116])) CL.nil))) (CL.cons (C.tup CL.nil) CL.nil)))) SL.nil) SL.nil) (SL.cons (S.ret (C.tup (CL.cons (C.var 0) (CL.cons (C.tup (CL.cons (C.cst (D.str [115, 104, 111, 114, 116])) (CL.cons (C.ix (C.var 1) (C.cst (D.int 1))) (CL.cons (C.and (C.cmp Op.eq (C.var 2) (C.cst (D.str [92]))) (C.not (C.ix (C.var 1) (C.cst (D.int 2))))) CL.nil)))) CL.nil)))) SL.nil)) SL.nil) (SL.cons (S.iff (C.or (C.ix (C.var 1) (C.cst (D.int 1))) (C.cmp Op.notin (C.var 2) (C.cst (D.str [34, 123, 125])))) (SL.cons (S.ret (C.tup (CL.cons (C.var 0) (CL.cons (C.tup (CL.cons (C.cst (D.str [116, 101, 109, 112, 108, 97, 116, 101])) (CL.cons (C.and (C.cmp Op.eq (C.var 2) (C.cst (D.str [92]))) (C.not (C.ix (C.var 1) (C.cst (D.int 1))))) CL.nil))) CL.nil)))) SL.nil) SL.nil) (SL.cons (S.sets [7, 8, 9, 10] (C.var 0)) (SL.cons (S.iff (C.cmp Op.eq (C.var 2) (C.cst (D.str [123]))) (SL.cons (S.ret (C.tup (CL.cons (C.tup (CL.cons (C.var 7) (CL.cons (C.var 8) (CL.cons (C.bin Op.add (C.var 9) (C.tup (CL.cons (C.tup (CL.cons (C.cst (D.str [102, 105, 101, 108, 100])) (CL.cons (C.var 10) CL.nil))) CL.nil))) (CL.cons (C.cst (D.str [111, 112, 101, 114, 97, 110, 100])) CL.nil))))) (CL.cons (C.tup CL.nil) CL.nil)))) SL.nil) SL.nil) (SL.cons (S.ret (C.ite (C.cmp Op.eq (C.var 2) (C.cst (D.str [34]))) (C.tup (CL.cons (C.var 0) (CL.cons (C.tup CL.nil) CL.nil))) (C.cst (D.non)))) SL.nil))))))
def f__law_in_text : Fn := ⟨3, [], false, 11, b__law_in_text⟩
def b__law_after : SL := SL.cons (S.iff (C.cmp Op.eq (C.var 1) (C.tup CL.nil)) (SL.cons (S.ret (C.call 49 (CL.cons (C.var 0) (CL.cons (C.var 2) CL.nil)))) SL.nil) SL.nil) (SL.cons (S.iff (C.cmp Op.isin (C.ix (C.var 1) (C.cst (D.int 0))) (C.tup (CL.cons (C.cst (D.str [108, 111, 110, 103])) (CL.cons (C.cst (D.str [115, 104, 111, 114, 116])) (CL.cons (C.cst (D.str [116, 101, 109, 112, 108, 97, 116, 101])) CL.nil))))) (SL.cons (S.ret (C.call 50 (CL.cons (C.var 0) (CL.cons (C.var 1) (CL.cons (C.var 2) CL.nil))))) SL.nil) SL.nil) (SL.cons (S.iff (C.cmp Op.eq (C.ix (C.var 1) (C.cst (D.int 0))) (C.cst (D.str [119, 111, 114, 100]))) (SL.cons (S.iff (C.call 44 (CL.cons (C.var 2) CL.nil)) (SL.cons (S.ret (C.ite (C.call 46 (CL.cons (C.var 0) (CL.cons (C.bin Op.add (C.ix (C.var 1) (C.cst (D.int 1))) (C.var 2)) CL.nil))) (C.tup (CL.cons (C.var 0) (CL.cons (C.tup (CL.cons (C.cst (D.str [119, 111, 114, 100])) (CL.cons (C.bin Op.add (C.ix (C.var 1) (C.cst (D.int 1))) (C.var 2)) CL.nil))) CL.nil))) (C.cst (D.non)))) SL.nil) SL.nil) (SL.cons (S.set 0 (C.call 42 (CL.cons (C.var 0) (CL.cons (C.ite (C.cmp Op.isin (C.ix (C.var 1) (C.cst (D.int 1))) (C.call 45 CL.nil)) (C.ix (C.var 1) (C.cst (D.int 1))) (C.cst (D.str [110, 97, 109, 101]))) CL.nil)))) (SL.cons (S.ret (C.ite (C.isN (C.var 0)) (C.cst (D.non)) (C.call 49 (CL.cons (C.var 0) (CL.cons (C.var 2) CL.nil))))) SL.nil))) SL.nil) (SL.cons (S.iff (C.cmp Op.eq (C.ix (C.var 1) (C.cst (D.int 0))) (C.cst (D.str [110, 117, 109, 98, 101, 114]))) (SL.cons (S.iff (C.call 44 (CL.cons (C.var 2) CL.nil)) (SL.cons (S.ret (C.ite (C.and (C.cmp Op.isin (C.var 2) (C.cst (D.str [48, 49, 50, 51, 52, 53, 54, 55, 56, 57]))) (C.cmp Op.ne (C.ix (C.var 1) (C.cst (D.int 1))) (C.cst (D.str [48])))) (C.tup (CL.cons (C.var 0) (CL.cons (C.var 1) CL.nil))) (C.cst (D.non)))) SL.nil) SL.nil) (SL.cons (S.ret (C.call 49 (CL.cons (C.call 42 (CL.cons (C.var 0) (CL.cons (C.cst (D.str [110, 117, 109, 98, 101, 114])) CL.nil))) (CL.cons (C.var 2) CL.nil)))) SL.nil)) SL.nil) (SL.cons (S.ret (C.call 52 (CL.cons (C.var 0) (CL.cons (C.var 1) (CL.cons (C.var 2) CL.nil))))) SL.nil))))
def f__law_after : Fn := ⟨3, [], false, 3, b__law_after⟩
def b__law_after_start : SL := SL.cons (S.iff (C.cmp Op.eq (C.ix (C.var 1) (C.cst (D.int 0))) (C.cst (D.str [113, 117, 111, 116, 101]))) (SL.cons (S.iff (C.cmp Op.eq (C.var 2) (C.ix (C.var 1) (C.cst (D.int 1)))) (SL.cons (S.ret (C.tup (CL.cons (C.var 0) (CL.cons (C.tup (CL.cons (C.cst (D.str [112, 97, 105, 114])) (CL.cons (C.var 2) CL.nil))) CL.nil)))) SL.nil) SL.nil) (SL.cons (S.ret (C.call 50 (CL.cons (C.var 0) (CL.cons (C.tup (CL.cons (C.cst (D.str [115, 104, 111, 114, 116])) (CL.cons (C.ix (C.var 1) (C.cst (D.int 1))) (CL.cons (C.cst (D.bl false)) CL.nil)))) (CL.cons (C.var 2) CL.nil))))) SL.nil)) SL.nil) (SL.cons (S.iff (C.cmp Op.eq (C.ix (C.var 1) (C.cst (D.int 0))) (C.cst (D.str [112, 97, 105, 114]))) (SL.cons (S.ret (C.ite (C.cmp Op.eq (C.var 2) (C.ix (C.var 1) (C.cst (D.int 1)))) (C.tup (CL.cons (C.var 0) (CL.cons (C.tup (CL.cons (C.cst (D.str [108, 111, 110, 103])) (CL.cons (C.var 2) (CL.cons (C.cst (D.int 0)) (CL.cons (C.cst (D.bl false)) CL.nil))))) CL.nil))) (C.call 49 (CL.cons (C.call 42 (CL.cons (C.var 0) (CL.cons (C.cst (D.str [116, 101, 120, 116])) CL.nil))) (CL.cons (C.var 2) CL.nil))))) SL.nil) SL.nil) (SL.cons (S.iff (C.cmp Op.eq (C.ix (C.var 1) (C.cst (D.int 0))) (C.cst (D.str [100, 111, 108, 108, 97, 114]))) (SL.cons (S.ret (C.ite (C.cmp Op.eq (C.var 2) (C.cst (D.str [34]))) (C.tup (CL.cons (C.call 42 (CL.cons (C.var 0) (CL.cons (C.cst (D.str [116, 101, 120, 116])) CL.nil))) (CL.cons (C.tup (CL.cons (C.cst (D.str [116, 101, 109, 112, 108, 97, 116, 101])) (CL.cons (C.cst (D.bl false)) CL.nil))) CL.nil))) (C.cst (D.non)))) SL.nil) SL.nil) (SL.cons (S.iff (C.cmp Op.eq (C.ix (C.var 1) (C.cst (D.int 0))) (C.cst (D.str [106, 111, 105, 110]))) (SL.cons (S.ret (C.ite (C.cmp Op.eq (C.var 2) (C.cst (D.str [10]))) (C.tup (CL.cons (C.var 0) (CL.cons (C.tup CL.nil) CL.nil))) (C.cst (D.non)))) SL.nil) SL.nil) (SL.cons (S.iff (C.cmp Op.eq (C.ix (C.var 1) (C.cst (D.int 0))) (C.cst (D.str [99, 111, 109, 109, 101, 110, 116]))) (SL.cons (S.iff (C.and (C.cmp Op.eq (C.var 2) (C.cst (D.str [10]))) (C.cmp Op.eq (C.ix (C.ix (C.var 0) (C.cst (D.int 1))) (C.cst (D.int 0))) (C.cst (D.str [102, 114, 111, 110, 116])))) (SL.cons (S.ret (C.tup (CL.cons (C.tup (CL.cons (C.ix (C.var 0) (C.cst (D.int 0))) (CL.cons (C.tup (CL.cons (C.cst (D.str [102, 114, 111, 110, 116])) (CL.cons (C.cst (D.int 0)) (CL.cons (C.ix (C.ix (C.var 0) (C.cst (D.int 1))) (C.cst (D.int 2))) CL.nil)))) (CL.cons (C.tup CL.nil) (CL.cons (C.cst (D.str [])) CL.nil))))) (CL.cons (C.tup CL.nil) CL.nil)))) SL.nil) SL.nil) (SL.cons (S.ret (C.ite (C.cmp Op.eq (C.var 2) (C.cst (D.str [10]))) (C.call 49 (CL.cons (C.var 0) (CL.cons (C.var 2) CL.nil))) (C.tup (CL.cons (C.var 0) (CL.cons (C.var 1) CL.nil))))) SL.nil)) SL.nil) (SL.cons (S.iff (C.cmp Op.eq (C.var 2) (C.cst (D.str [61]))) (SL.cons (S.ret (C.tup (CL.cons (C.call 42 (CL.cons (C.var 0) (CL.cons (C.cst (D.str [61, 61])) CL.nil))) (CL.cons (C.tup CL.nil) CL.nil)))) SL.nil) SL.nil) (SL.cons (S.set 0 (C.ite (C.cmp Op.eq (C.ix (C.var 1) (C.cst (D.int 1))) (C.cst (D.str [33]))) (C.cst (D.non)) (C.call 42 (CL.cons (C.var 0) (CL.cons (C.ite (C.cmp Op.eq (C.ix (C.var 1) (C.cst (D.int 1))) (C.cst (D.str [61]))) (C.cst (D.str [61])) (C.cst (D.str [111, 112]))) CL.nil))))) (SL.cons (S.ret (C.ite (C.isN (C.var 0)) (C.cst (D.non)) (C.call 49 (CL.cons (C.var 0) (CL.cons (C.var 2) CL.nil))))) SL.nil)))))))
def f__law_after_start : Fn := ⟨3, [], false, 3, b__law_after_start⟩
def b__law_run : SL := SL.cons (S.sets [1, 2] (C.tup (CL.cons (C.tup (CL.cons (C.tup CL.nil) (CL.cons (C.tup (CL.cons (C.cst (D.str [102, 114, 111, 110, 116])) (CL.cons (C.cst (D.int 0)) (CL.cons (C.tup CL.nil) CL.nil)))) (CL.cons (C.tup CL.nil) (CL.cons (C.cst (D.str [])) CL.nil))))) (CL.cons (C.tup CL.nil) CL.nil)))) (SL.cons (S.forR 3 (C.f1 Fn1.len (C.var 0)) (SL.cons (S.set 4 (C.call 51 (CL.cons (C.var 1) (CL.cons (C.var 2) (CL.cons (C.ix (C.var 0) (C.var 3)) CL.nil))))) (SL.cons (S.iff (C.isN (C.var 4)) (SL.cons (S.ret (C.tup (CL.cons (C.cst (D.non)) (CL.cons (C.cst (D.non)) (CL.cons (C.var 3) CL.nil))))) SL.nil) SL.nil) (SL.cons (S.sets [1, 2] (C.var 4)) SL.nil)))) (SL.cons (S.ret (C.tup (CL.cons (C.var 1) (CL.cons (C.var 2) (CL.cons (C.cst (D.non)) CL.nil))))) SL.nil))
def f__law_run : Fn := ⟨1, [], false, 5, b__law_run⟩
def b__law_judged : SL := SL.cons (S.sets [1, 2, 3] (C.call 53 (CL.cons (C.var 0) CL.nil))) (SL.cons (S.iff (C.isN (C.var 1)) (SL.cons (S.ret (C.tup (CL.cons (C.cst (D.str [119, 114, 111, 110, 103])) (CL.cons (C.var 3) CL.nil)))) SL.nil) SL.nil) (SL.cons (S.iff (C.cmp Op.eq (C.ix (C.ix (C.var 1) (C.cst (D.int 1))) (C.cst (D.int 0))) (C.cst (D.str [111, 118, 101, 114]))) (SL.cons (S.ret (C.tup (CL.cons (C.cst (D.str [99, 111, 109, 112, 108, 101, 116, 101])) (CL.cons (C.cst (D.non)) CL.nil)))) SL.nil) SL.nil) (SL.cons (S.ret (C.tup (CL.cons (C.ite (C.cmp Op.eq (C.ix (C.var 1) (C.cst (D.int 0))) (C.tup CL.nil)) (C.cst (D.str [101, 109, 112, 116, 121])) (C.cst (D.str [105, 110, 99, 111, 109, 112, 108, 101, 116, 101]))) (CL.cons (C.cst (D.non)) CL.nil)))) SL.nil)))
def f__law_judged : Fn := ⟨1, [], false, 4, b__law_judged⟩
def b__law_settled : SL := SL.cons (S.set 2 (C.m1 Mt1.join (C.cst (D.str [])) (C.lcomp 4 (C.var 0) CO.none (C.bin Op.add (C.var 4) (C.cst (D.str [10])))))) (SL.cons (S.set 3 (C.ix (C.call 54 (CL.cons (C.var 2) CL.nil)) (C.cst (D.int 0)))) (SL.cons (S.iff (C.cmp Op.eq (C.var 3) (C.cst (D.str [99, 111, 109, 112, 108, 101, 116, 101]))) (SL.cons (S.ret (C.tup (CL.cons (C.var 3) (CL.cons (C.lst CL.nil) (CL.cons (C.bin Op.add (C.var 1) (C.lst (CL.cons (C.var 2) CL.nil))) CL.nil))))) SL.nil) SL.nil) (SL.cons (S.ret (C.tup (CL.cons (C.var 3) (CL.cons (C.ite (C.cmp Op.eq (C.var 3) (C.cst (D.str [101, 109, 112, 116, 121]))) (C.lst CL.nil) (C.var 0)) (CL.cons (C.var 1) CL.nil))))) SL.nil)))
def f__law_settled : Fn := ⟨2, [], false, 5, b__law_settled⟩
def b_parts : SL := SL.cons (S.ret (C.tup (CL.cons (C.attr (C.var 0) 0) (CL.cons (C.attr (C.var 0) 1) (CL.cons (C.attr (C.var 0) 2) (CL.cons (C.attr (C.var 0) 3) (CL.cons (C.attr (C.var 0) 4) CL.nil))))))) SL.nil
def f_parts : Fn := ⟨1, [], false, 1, b_parts⟩
def b_in_phase : SL := SL.cons (S.ret (C.new (CL.cons (C.attr (C.var 0) 0) (CL.cons (C.attr (C.var 0) 1) (CL.cons (C.attr (C.var 0) 2) (CL.cons (C.var 1) (CL.cons (C.var 2) CL.nil))))))) SL.nil
def f_in_phase : Fn := ⟨3, [D.tup []], false, 3, b_in_phase⟩
def b_with_token : SL := SL.cons (S.ret (C.new (CL.cons (C.attr (C.var 0) 0) (CL.cons (C.attr (C.var 0) 1) (CL.cons (C.attr (C.var 0) 2) (CL.cons (C.attr (C.var 0) 3) (CL.cons (C.var 1) CL.nil))))))) SL.nil
def f_with_token : Fn := ⟨1, [], true, 2, b_with_token⟩
def b_opened : SL := SL.cons (S.ret (C.new (CL.cons (C.attr (C.var 0) 0) (CL.cons (C.attr (C.var 0) 1) (CL.cons (C.tup (CL.star (C.attr (C.var 0) 2) (CL.cons (C.tup (CL.cons (C.var 1) (CL.cons (C.var 2) CL.nil))) CL.nil))) (CL.cons (C.var 3) CL.nil)))))) SL.nil
def f_opened : Fn := ⟨4, [], false, 4, b_opened⟩
def b_reframed : SL := SL.cons (S.set 3 (C.ix (C.ix (C.attr (C.var 0) 2) (C.neg (C.cst (D.int 1)))) (C.cst (D.int 1)))) (SL.cons (S.ret (C.new (CL.cons (C.attr (C.var 0) 0) (CL.cons (C.attr (C.var 0) 1) (CL.cons (C.tup (CL.star (C.slice (C.attr (C.var 0) 2) CO.none (CO.some (C.neg (C.cst (D.int 1))))) (CL.cons (C.tup (CL.cons (C.var 1) (CL.cons (C.var 3) CL.nil))) CL.nil))) (CL.cons (C.var 2) CL.nil)))))) SL.nil)
def f_reframed : Fn := ⟨3, [], false, 4, b_reframed⟩
def b_closed : SL := SL.cons (S.sets [1, 2] (C.ix (C.attr (C.var 0) 2) (C.neg (C.cst (D.int 1))))) (SL.cons (S.set 3 (C.ite (C.cmp Op.eq (C.var 1) (C.cst (D.str [102]))) (C.tup (CL.cons (C.cst (D.str [116, 101, 109, 112, 108, 97, 116, 101])) (CL.cons (C.var 2) (CL.cons (C.cst (D.bl false)) CL.nil)))) (C.tup CL.nil))) (SL.cons (S.ret (C.new (CL.cons (C.attr (C.var 0) 0) (CL.cons (C.attr (C.var 0) 1) (CL.cons (C.slice (C.attr (C.var 0) 2) CO.none (CO.some (C.neg (C.cst (D.int 1))))) (CL.cons (C.var 2) (CL.cons (C.var 3) CL.nil))))))) SL.nil))
def f_closed : Fn := ⟨1, [], false, 4, b_closed⟩
def b_innermost : SL := SL.cons (S.ret (C.ite (C.cmp Op.ne (C.attr (C.var 0) 2) (C.tup CL.nil)) (C.ix (C.ix (C.attr (C.var 0) 2) (C.neg (C.cst (D.int 1)))) (C.cst (D.int 0))) (C.cst (D.str [])))) SL.nil
def f_innermost : Fn := ⟨1, [], false, 1, b_innermost⟩
def b_is_prefix : SL := SL.cons (S.iff (C.cmp Op.isin (C.attr (C.var 0) 3) (C.glo 12)) (SL.cons (S.ret (C.cst (D.bl true))) SL.nil) SL.nil) (SL.cons (S.set 2 (C.tup CL.nil)) (SL.cons (S.iff (C.cmp Op.isin (C.attr (C.var 0) 3) (C.glo 8)) (SL.cons (S.set 2 (C.glo 5)) SL.nil) (SL.cons (S.iff (C.cmp Op.eq (C.attr (C.var 0) 3) (C.cst (D.str [102, 111, 114, 105, 110]))) (SL.cons (S.set 2 (C.tup (CL.cons (C.cst (D.str [105, 110])) CL.nil))) SL.nil) (SL.cons (S.iff (C.cmp Op.eq (C.attr (C.var 0) 3) (C.cst (D.str [99, 108, 97, 117, 115, 101]))) (SL.cons (S.set 2 (C.kget 0 (C.ix (C.attr (C.var 0) 1) (C.cst (D.int 1))))) SL.nil) SL.nil) SL.nil)) SL.nil)) (SL.cons (S.ret (C.f1 Fn1.any (C.lcomp 3 (C.var 2) CO.none (C.m1 Mt1.startswith (C.var 3) (C.var 1))))) SL.nil)))
def f_is_prefix : Fn := ⟨2, [], false, 4, b_is_prefix⟩
def prog : Nat → Option Fn := fun k => match k with
  | 1 => some f_consists_of
  | 2 => some f_is_line
  | 3 => some f_is_text
  | 4 => some f_with_clauses
  | 5 => some f_after_line
  | 6 => some f_after_empty_line
  | 7 => some f_line_begun
  | 8 => some f_small_begun
  | 9 => some f_header_begun
  | 10 => some f_after_word
  | 11 => some f_may_assign
  | 12 => some f_after_short
  | 13 => some f_after_long
  | 14 => some f_after_template
  | 15 => some f_after_operator
  | 16 => some f_after_word_sign
  | 17 => some f_after_number
  | 18 => some f_after_quote
  | 19 => some f_after_token
  | 20 => some f_after_operand_sign
  | 21 => some f_after_comma
  | 22 => some f_after_colon
  | 23 => some f_after_done_sign
  | 24 => some f_after_code_sign
  | 25 => some f_after_start_sign
  | 26 => some f_after_plain
  | 27 => some f_next_state
  | 28 => some f_state_behind
  | 29 => some f_state_of
  | 30 => some f_is_entry_state
  | 31 => some f_state_verdict
  | 32 => some f_is_index
  | 33 => some f_is_entry
  | 34 => some f_is_count
  | 35 => some f__law_mixed
  | 36 => some f__law_primary_end
  | 37 => some f__law_operand
  | 38 => some f__law_end_of
  | 39 => some f__law_behind
  | 40 => some f__law_ended
  | 41 => some f__law_begun
  | 42 => some f__law_step
  | 43 => some f__law_line_end
  | 44 => some f__law_is_wordy
  | 45 => some f__law_keywords
  | 46 => some f__law_can
  | 47 => some f__law_line_begun
  | 48 => some f__law_front
  | 49 => some f__law_code
  | 50 => some f__law_in_text
  | 51 => some f__law_after
  | 52 => some f__law_after_start
  | 53 => some f__law_run
  | 54 => some f__law_judged
  | 55 => some f__law_settled
  | 56 => some f_parts
  | 57 => some f_in_phase
  | 58 => some f_with_token
  | 59 => some f_opened
  | 60 => some f_reframed
  | 61 => some f_closed
  | 62 => some f_innermost
  | 63 => some f_is_prefix
  | _ => none
def sdfl : List D := [D.tup [], D.tup [D.str [115, 116, 97, 114, 116], D.int 0, D.tup []], D.tup [], D.str [], D.tup []]
end Rp
namespace Rp
open PySem PySem.Spec PyProof.Rows L2
/-- a class of the program: its address, its fields in the order in which __init__ stores them -/
structure Cl where
  at_ : Nat → Addr
  fld : Nat → List Str
section
variable (K : PySem.W.Frag) (T : Cl) (H : Hp)
mutual
inductive Rep : V → D → Prop
  | non : Rep .non .non
  | bl (b : Bool) : Rep (.bl b) (.bl b)
  | int (i : Int) : Rep (.int i) (.int i)
  | str (s : List Ch) : Rep (.str (toS s)) (.str s)
  | tup {a : Addr} {vs : List V} {ds : List D} : SqT K H a vs → RepL vs ds → Rep (.ref a) (.tup ds)
  | lst {a : Addr} {vs : List V} {ds : List D} : Rd H a (.lst vs) → RepL vs ds → Rep (.ref a) (.lst ds)
  | dic {a : Addr} {kvs : List (Key × V)} {ks : List (List Ch)} {ds : List D} : H a = some (.dK kvs) → kvs.map (·.1) = ks.map (fun k => (Sum.inr (toS k) : Key)) → RepL (kvs.map (·.2)) ds → Rep (.ref a) (.dic ks ds)
  | ins {a dx : Addr} {fs : List (Str × V)} {c : Nat} {ds : List D} : H a = some (.ins (T.at_ c) dx fs) → fs.map (·.1) = T.fld c → RepL (fs.map (·.2)) ds → Rep (.ref a) (.ins c ds)
inductive RepL : List V → List D → Prop
  | nil : RepL [] []
  | cons {v : V} {vs : List V} {d : D} {ds : List D} : Rep v d → RepL vs ds → RepL (v :: vs) (d :: ds)
end
end
section
variable {K : PySem.W.Frag} {T : Cl} {H H' : Hp}
theorem RepL.length : ∀ {vs : List V} {ds : List D}, RepL K T H vs ds → vs.length = ds.length
  | _, _, .nil => rfl
  | _, _, .cons _ r => by rw [List.length_cons, List.length_cons, r.length]
/-- the value and the heap behind an expression that computes d -/
def Got (K : PySem.W.Frag) (T : Cl) (H : Hp) (d : D) (Q : VK) : Prop := ∀ v H', Same H H' → Rep K T H' v d → Q v H'
theorem Got.new {p : Addr} {o : HO} {d : D} {Q : VK} (k : Got K T H d Q) (hp : H p = none) (r : Rep K T (upd H p o) (.ref p) d) : Q (.ref p) (upd H p o) :=
  k _ _ (fun b u e => by rw [upd_ne (ne_of_none e hp)]; exact e) r
end
end Rp
namespace Rp
open PySem PySem.Spec PyProof.Rows L2
/-- the names' values -/
structure RepS (K : PySem.W.Frag) (T : Cl) (H : Hp) (σ : L2.St) (ρ : Ev) : Prop where
  len : σ.length = ρ.length
  at_ : ∀ (i : Nat) (d : D), ρ[i]? = some (some d) → ∃ v, σ[i]? = some (some v) ∧ Rep K T H v d
section
variable {K : PySem.W.Frag} {T : Cl} {H H' : Hp} {σ : L2.St} {ρ : Ev}
theorem RepS.set (r : RepS K T H σ ρ) (i : Nat) {v : V} {d : D} (h : Rep K T H v d) : RepS K T H (σ.set i (some v)) (ρ.set i (some d)) := by
  refine ⟨by rw [List.length_set, List.length_set, r.len], fun j e hj => ?_⟩
  by_cases hij : i = j
  · subst hij
    by_cases hl : i < ρ.length
    · rw [List.getElem?_set_self hl] at hj
      cases hj
      exact ⟨v, by rw [List.getElem?_set_self (by rw [r.len]; exact hl)], h⟩
    · rw [List.getElem?_eq_none (by rw [List.length_set]; omega)] at hj
      cases hj
  · rw [List.getElem?_set_ne hij] at hj ⊢
    exact r.at_ j e hj
end
theorem _root_.L2.PE.or {X : Cx} {e : Expr} {t t' : TE} (h : PE X e t) (h' : PE X e t') : PE X e (fun σ H Q => t σ H Q ∨ t' σ H Q) := ⟨fun pins s σ H Q I q => q.elim (h.run pins s σ H Q I) (h'.run pins s σ H Q I)⟩
theorem _root_.L2.PT.or {X : Cx} {e : Expr} {t t' : TT} (h : PT X e t) (h' : PT X e t') : PT X e (fun σ H Q => t σ H Q ∨ t' σ H Q) := ⟨fun pins s σ H Q I q => q.elim (h.run pins s σ H Q I) (h'.run pins s σ H Q I)⟩
end Rp
namespace Rp
open PySem PySem.Spec PyProof.Rows L2
def blts : List Str := ["len", "any", "all", "list", "dict", "isinstance", "str", "int", "bool", "range", "enumerate"]
end Rp
namespace Rp
open PySem PySem.Spec PyProof.Rows L2
section
variable {X : Cx} {G : Gt} {F : Ft} {T : Cl} {M : Nm} {m n : Nat} {pos p apos cpos : Pos} {a b c e o : Expr} {ca cb cc : C} {K : PySem.W.Frag} {es : List Expr} {cl : CL} {x : Str}
theorem _root_.L2.PI.or {X : Cx} {tg e : Expr} {w w' : TI} (h : PI X tg e w) (h' : PI X tg e w') : PI X tg e (fun σ H R => w σ H R ∨ w' σ H R) := ⟨fun pins s σ H R I q => q.elim (h.run pins s σ H R I) (h'.run pins s σ H R I)⟩
end
end Rp
namespace Rp
open PySem PySem.Spec PyProof.Rows L2
def s_init : Stmt := inClass (top 34) 0
end Rp
namespace Rp
open PySem PySem.Spec PyProof.Rows L2
def d_init : He.DefD := ⟨("State", some "__init__"), "__init__", "State.__init__", defArgs s_init, defBody s_init, defScope s_init, [.adr (He.dflAt ("State", some "__init__") 0), .adr (He.dflAt ("State", some "__init__") 1), .adr (He.dflAt ("State", some "__init__") 2), .str "", .adr (He.dflAt ("State", some "__init__") 4)], []⟩
section
variable {P : Program} {w : World} {K : PySem.W.Frag} {mg : Str → Option Value} {base : Heap} {T : Cl} {m : Nat}
def d_consists_of : He.DefD := ⟨("consists_of", none), "consists_of", "consists_of", defArgs s_consists_of, defBody s_consists_of, defScope s_consists_of, [], []⟩
def d_is_line : He.DefD := ⟨("is_line", none), "is_line", "is_line", defArgs s_is_line, defBody s_is_line, defScope s_is_line, [], []⟩
def d_is_text : He.DefD := ⟨("is_text", none), "is_text", "is_text", defArgs s_is_text, defBody s_is_text, defScope s_is_text, [], []⟩
def d_with_clauses : He.DefD := ⟨("with_clauses", none), "with_clauses", "with_clauses", defArgs s_with_clauses, defBody s_with_clauses, defScope s_with_clauses, [], []⟩
def d_after_line : He.DefD := ⟨("after_line", none), "after_line", "after_line", defArgs s_after_line, defBody s_after_line, defScope s_after_line, [], []⟩
def d_after_empty_line : He.DefD := ⟨("after_empty_line", none), "after_empty_line", "after_empty_line", defArgs s_after_empty_line, defBody s_after_empty_line, defScope s_after_empty_line, [], []⟩
def d_line_begun : He.DefD := ⟨("line_begun", none), "line_begun", "line_begun", defArgs s_line_begun, defBody s_line_begun, defScope s_line_begun, [], []⟩
def d_small_begun : He.DefD := ⟨("small_begun", none), "small_begun", "small_begun", defArgs s_small_begun, defBody s_small_begun, defScope s_small_begun, [], []⟩
def d_header_begun : He.DefD := ⟨("header_begun", none), "header_begun", "header_begun", defArgs s_header_begun, defBody s_header_begun, defScope s_header_begun, [], []⟩
def d_after_word : He.DefD := ⟨("after_word", none), "after_word", "after_word", defArgs s_after_word, defBody s_after_word, defScope s_after_word, [], []⟩
def d_may_assign : He.DefD := ⟨("may_assign", none), "may_assign", "may_assign", defArgs s_may_assign, defBody s_may_assign, defScope s_may_assign, [], []⟩
def d_after_short : He.DefD := ⟨("after_short", none), "after_short", "after_short", defArgs s_after_short, defBody s_after_short, defScope s_after_short, [], []⟩
def d_after_long : He.DefD := ⟨("after_long", none), "after_long", "after_long", defArgs s_after_long, defBody s_after_long, defScope s_after_long, [], []⟩
def d_after_template : He.DefD := ⟨("after_template", none), "after_template", "after_template", defArgs s_after_template, defBody s_after_template, defScope s_after_template, [], []⟩
def d_after_operator : He.DefD := ⟨("after_operator", none), "after_operator", "after_operator", defArgs s_after_operator, defBody s_after_operator, defScope s_after_operator, [], []⟩
def d_after_word_sign : He.DefD := ⟨("after_word_sign", none), "after_word_sign", "after_word_sign", defArgs s_after_word_sign, defBody s_after_word_sign, defScope s_after_word_sign, [], []⟩
def d_after_number : He.DefD := ⟨("after_number", none), "after_number", "after_number", defArgs s_after_number, defBody s_after_number, defScope s_after_number, [], []⟩
def d_after_quote : He.DefD := ⟨("after_quote", none), "after_quote", "after_quote", defArgs s_after_quote, defBody s_after_quote, defScope s_after_quote, [], []⟩
def d_after_token : He.DefD := ⟨("after_token", none), "after_token", "after_token", defArgs s_after_token, defBody s_after_token, defScope s_after_token, [], []⟩
def d_after_operand_sign : He.DefD := ⟨("after_operand_sign", none), "after_operand_sign", "after_operand_sign", defArgs s_after_operand_sign, defBody s_after_operand_sign, defScope s_after_operand_sign, [], []⟩
def d_after_comma : He.DefD := ⟨("after_comma", none), "after_comma", "after_comma", defArgs s_after_comma, defBody s_after_comma, defScope s_after_comma, [], []⟩
def d_after_colon : He.DefD := ⟨("after_colon", none), "after_colon", "after_colon", defArgs s_after_colon, defBody s_after_colon, defScope s_after_colon, [], []⟩
def d_after_done_sign : He.DefD := ⟨("after_done_sign", none), "after_done_sign", "after_done_sign", defArgs s_after_done_sign, defBody s_after_done_sign, defScope s_after_done_sign, [], []⟩
def d_after_code_sign : He.DefD := ⟨("after_code_sign", none), "after_code_sign", "after_code_sign", defArgs s_after_code_sign, defBody s_after_code_sign, defScope s_after_code_sign, [], []⟩
def d_after_start_sign : He.DefD := ⟨("after_start_sign", none), "after_start_sign", "after_start_sign", defArgs s_after_start_sign, defBody s_after_start_sign, defScope s_after_start_sign, [], []⟩
def d_after_plain : He.DefD := ⟨("after_plain", none), "after_plain", "after_plain", defArgs s_after_plain, defBody s_after_plain, defScope s_after_plain, [], []⟩
def d_next_state : He.DefD := ⟨("next_state", none), "next_state", "next_state", defArgs s_next_state, defBody s_next_state, defScope s_next_state, [], []⟩
def d_state_behind : He.DefD := ⟨("state_behind", none), "state_behind", "state_behind", defArgs s_state_behind, defBody s_state_behind, defScope s_state_behind, [], []⟩
def d_state_of : He.DefD := ⟨("state_of", none), "state_of", "state_of", defArgs s_state_of, defBody s_state_of, defScope s_state_of, [], []⟩
def d_is_entry_state : He.DefD := ⟨("is_entry_state", none), "is_entry_state", "is_entry_state", defArgs s_is_entry_state, defBody s_is_entry_state, defScope s_is_entry_state, [], []⟩
def d_state_verdict : He.DefD := ⟨("state_verdict", none), "state_verdict", "state_verdict", defArgs s_state_verdict, defBody s_state_verdict, defScope s_state_verdict, [], []⟩
def d_is_index : He.DefD := ⟨("is_index", none), "is_index", "is_index", defArgs s_is_index, defBody s_is_index, defScope s_is_index, [], []⟩
def d_is_entry : He.DefD := ⟨("is_entry", none), "is_entry", "is_entry", defArgs s_is_entry, defBody s_is_entry, defScope s_is_entry, [], []⟩
def d_is_count : He.DefD := ⟨("is_count", none), "is_count", "is_count", defArgs s_is_count, defBody s_is_count, defScope s_is_count, [], []⟩
def d__law_mixed : He.DefD := ⟨("_law_mixed", none), "_law_mixed", "_law_mixed", defArgs s__law_mixed, defBody s__law_mixed, defScope s__law_mixed, [], []⟩
def d__law_primary_end : He.DefD := ⟨("_law_primary_end", none), "_law_primary_end", "_law_primary_end", defArgs s__law_primary_end, defBody s__law_primary_end, defScope s__law_primary_end, [], []⟩
def d__law_operand : He.DefD := ⟨("_law_operand", none), "_law_operand", "_law_operand", defArgs s__law_operand, defBody s__law_operand, defScope s__law_operand, [], []⟩
def d__law_end_of : He.DefD := ⟨("_law_end_of", none), "_law_end_of", "_law_end_of", defArgs s__law_end_of, defBody s__law_end_of, defScope s__law_end_of, [], []⟩
def d__law_behind : He.DefD := ⟨("_law_behind", none), "_law_behind", "_law_behind", defArgs s__law_behind, defBody s__law_behind, defScope s__law_behind, [], []⟩
def d__law_ended : He.DefD := ⟨("_law_ended", none), "_law_ended", "_law_ended", defArgs s__law_ended, defBody s__law_ended, defScope s__law_ended, [], []⟩
def d__law_begun : He.DefD := ⟨("_law_begun", none), "_law_begun", "_law_begun", defArgs s__law_begun, defBody s__law_begun, defScope s__law_begun, [], []⟩
def d__law_step : He.DefD := ⟨("_law_step", none), "_law_step", "_law_step", defArgs s__law_step, defBody s__law_step, defScope s__law_step, [], []⟩
def d__law_line_end : He.DefD := ⟨("_law_line_end", none), "_law_line_end", "_law_line_end", defArgs s__law_line_end, defBody s__law_line_end, defScope s__law_line_end, [], []⟩
def d__law_is_wordy : He.DefD := ⟨("_law_is_wordy", none), "_law_is_wordy", "_law_is_wordy", defArgs s__law_is_wordy, defBody s__law_is_wordy, defScope s__law_is_wordy, [], []⟩
def d__law_keywords : He.DefD := ⟨("_law_keywords", none), "_law_keywords", "_law_keywords", defArgs s__law_keywords, defBody s__law_keywords, defScope s__law_keywords, [], []⟩
def d__law_can : He.DefD := ⟨("_law_can", none), "_law_can", "_law_can", defArgs s__law_can, defBody s__law_can, defScope s__law_can, [], []⟩
def d__law_line_begun : He.DefD := ⟨("_law_line_begun", none), "_law_line_begun", "_law_line_begun", defArgs s__law_line_begun, defBody s__law_line_begun, defScope s__law_line_begun, [], []⟩
def d__law_front : He.DefD := ⟨("_law_front", none), "_law_front", "_law_front", defArgs s__law_front, defBody s__law_front, defScope s__law_front, [], []⟩
def d__law_code : He.DefD := ⟨("_law_code", none), "_law_code", "_law_code", defArgs s__law_code, defBody s__law_code, defScope s__law_code, [], []⟩
def d__law_in_text : He.DefD := ⟨("_law_in_text", none), "_law_in_text", "_law_in_text", defArgs s__law_in_text, defBody s__law_in_text, defScope s__law_in_text, [], []⟩
def d__law_after : He.DefD := ⟨("_law_after", none), "_law_after", "_law_after", defArgs s__law_after, defBody s__law_after, defScope s__law_after, [], []⟩
def d__law_after_start : He.DefD := ⟨("_law_after_start", none), "_law_after_start", "_law_after_start", defArgs s__law_after_start, defBody s__law_after_start, defScope s__law_after_start, [], []⟩
def d__law_run : He.DefD := ⟨("_law_run", none), "_law_run", "_law_run", defArgs s__law_run, defBody s__law_run, defScope s__law_run, [], []⟩
def d__law_judged : He.DefD := ⟨("_law_judged", none), "_law_judged", "_law_judged", defArgs s__law_judged, defBody s__law_judged, defScope s__law_judged, [], []⟩
def d__law_settled : He.DefD := ⟨("_law_settled", none), "_law_settled", "_law_settled", defArgs s__law_settled, defBody s__law_settled, defScope s__law_settled, [], []⟩
def d_parts : He.DefD := ⟨("State", some "parts"), "parts", "State.parts", defArgs s_parts, defBody s_parts, defScope s_parts, [], []⟩
def d_in_phase : He.DefD := ⟨("State", some "in_phase"), "in_phase", "State.in_phase", defArgs s_in_phase, defBody s_in_phase, defScope s_in_phase, [.adr (He.dflAt ("State", some "in_phase") 0)], []⟩
def d_with_token : He.DefD := ⟨("State", some "with_token"), "with_token", "State.with_token", defArgs s_with_token, defBody s_with_token, defScope s_with_token, [], []⟩
def d_opened : He.DefD := ⟨("State", some "opened"), "opened", "State.opened", defArgs s_opened, defBody s_opened, defScope s_opened, [], []⟩
def d_reframed : He.DefD := ⟨("State", some "reframed"), "reframed", "State.reframed", defArgs s_reframed, defBody s_reframed, defScope s_reframed, [], []⟩
def d_closed : He.DefD := ⟨("State", some "closed"), "closed", "State.closed", defArgs s_closed, defBody s_closed, defScope s_closed, [], []⟩
def d_innermost : He.DefD := ⟨("State", some "innermost"), "innermost", "State.innermost", defArgs s_innermost, defBody s_innermost, defScope s_innermost, [], []⟩
def d_is_prefix : He.DefD := ⟨("State", some "is_prefix"), "is_prefix", "State.is_prefix", defArgs s_is_prefix, defBody s_is_prefix, defScope s_is_prefix, [], []⟩
end
def fnl : List He.DefD := [d_init, d_consists_of, d_is_line, d_is_text, d_with_clauses, d_after_line, d_after_empty_line, d_line_begun, d_small_begun, d_header_begun, d_after_word, d_may_assign, d_after_short, d_after_long, d_after_template, d_after_operator, d_after_word_sign, d_after_number, d_after_quote, d_after_token, d_after_operand_sign, d_after_comma, d_after_colon, d_after_done_sign, d_after_code_sign, d_after_start_sign, d_after_plain, d_next_state, d_state_behind, d_state_of, d_is_entry_state, d_state_verdict, d_is_index, d_is_entry, d_is_count, d__law_mixed, d__law_primary_end, d__law_operand, d__law_end_of, d__law_behind, d__law_ended, d__law_begun, d__law_step, d__law_line_end, d__law_is_wordy, d__law_keywords, d__law_can, d__law_line_begun, d__law_front, d__law_code, d__law_in_text, d__law_after, d__law_after_start, d__law_run, d__law_judged, d__law_settled, d_parts, d_in_phase, d_with_token, d_opened, d_reframed, d_closed, d_innermost, d_is_prefix]
end Rp
namespace Rp
open PySem PySem.Spec PyProof.Rows L2
def h_check_text : Stmt := top 60
def e_check_text : He.DefD := ⟨("check_text", none), "check_text", "check_text", defArgs h_check_text, defBody h_check_text, defScope h_check_text, [], []⟩
def h_read_on : Stmt := top 69
def e_read_on : He.DefD := ⟨("read_on", none), "read_on", "read_on", defArgs h_read_on, defBody h_read_on, defScope h_read_on, [], []⟩
def h_reread : Stmt := top 70
def e_reread : He.DefD := ⟨("reread", none), "reread", "reread", defArgs h_reread, defBody h_reread, defScope h_reread, [], []⟩
def h_check_line : Stmt := top 71
def e_check_line : He.DefD := ⟨("check_line", none), "check_line", "check_line", defArgs h_check_line, defBody h_check_line, defScope h_check_line, [], []⟩
def h_law_begin : Stmt := top 86
def e_law_begin : He.DefD := ⟨("_law_begin", none), "_law_begin", "_law_begin", defArgs h_law_begin, defBody h_law_begin, defScope h_law_begin, [], []⟩
def h_law_next : Stmt := top 88
def e_law_next : He.DefD := ⟨("_law_next", none), "_law_next", "_law_next", defArgs h_law_next, defBody h_law_next, defScope h_law_next, [], []⟩
def h_law_rough : Stmt := top 108
def e_law_rough : He.DefD := ⟨("_law_rough", none), "_law_rough", "_law_rough", defArgs h_law_rough, defBody h_law_rough, defScope h_law_rough, [], []⟩
def h_law_is_so : Stmt := top 109
def e_law_is_so : He.DefD := ⟨("_law_is_so", none), "_law_is_so", "_law_is_so", defArgs h_law_is_so, defBody h_law_is_so, defScope h_law_is_so, [], []⟩
def h_law_right : Stmt := top 111
def e_law_right : He.DefD := ⟨("_law_right", none), "_law_right", "_law_right", defArgs h_law_right, defBody h_law_right, defScope h_law_right, [], []⟩
def h_law : Stmt := top 112
def e_law : He.DefD := ⟨("law", none), "law", "law", defArgs h_law, defBody h_law, defScope h_law, [], []⟩
def h_b_init : Stmt := inClass (top 73) 0
def e_b_init : He.DefD := ⟨("Buffer", some "__init__"), "__init__", "Buffer.__init__", defArgs h_b_init, defBody h_b_init, defScope h_b_init, [], []⟩
def h_b_len : Stmt := inClass (top 73) 8
def e_b_len : He.DefD := ⟨("Buffer", some "__len__"), "__len__", "Buffer.__len__", defArgs h_b_len, defBody h_b_len, defScope h_b_len, [], []⟩
def h_b_exchanged : Stmt := inClass (top 73) 14
def e_b_exchanged : He.DefD := ⟨("Buffer", some "exchanged"), "exchanged", "Buffer.exchanged", defArgs h_b_exchanged, defBody h_b_exchanged, defScope h_b_exchanged, [], []⟩
def h_b_put_in : Stmt := inClass (top 73) 15
def e_b_put_in : He.DefD := ⟨("Buffer", some "put_in"), "put_in", "Buffer.put_in", defArgs h_b_put_in, defBody h_b_put_in, defScope h_b_put_in, [], []⟩
def h_b_add : Stmt := inClass (top 73) 16
def e_b_add : He.DefD := ⟨("Buffer", some "add"), "add", "Buffer.add", defArgs h_b_add, defBody h_b_add, defScope h_b_add, [], []⟩
def h_b_change : Stmt := inClass (top 73) 17
def e_b_change : He.DefD := ⟨("Buffer", some "change"), "change", "Buffer.change", defArgs h_b_change, defBody h_b_change, defScope h_b_change, [], []⟩
def h_b_withdraw : Stmt := inClass (top 73) 19
def e_b_withdraw : He.DefD := ⟨("Buffer", some "withdraw"), "withdraw", "Buffer.withdraw", defArgs h_b_withdraw, defBody h_b_withdraw, defScope h_b_withdraw, [.int 1], []⟩
def h_h_init : Stmt := inClass (top 79) 0
def e_h_init : He.DefD := ⟨("History", some "__init__"), "__init__", "History.__init__", defArgs h_h_init, defBody h_h_init, defScope h_h_init, [.int 100], []⟩
def h_h_add : Stmt := inClass (top 79) 3
def e_h_add : He.DefD := ⟨("History", some "add"), "add", "History.add", defArgs h_h_add, defBody h_h_add, defScope h_h_add, [], []⟩
def h_h_newest : Stmt := inClass (top 79) 4
def e_h_newest : He.DefD := ⟨("History", some "newest"), "newest", "History.newest", defArgs h_h_newest, defBody h_h_newest, defScope h_h_newest, [], []⟩
def h_c_init : Stmt := inClass (top 84) 0
def e_c_init : He.DefD := ⟨("Console", some "__init__"), "__init__", "Console.__init__", defArgs h_c_init, defBody h_c_init, defScope h_c_init, [.non], []⟩
def h_c_settled : Stmt := inClass (top 84) 6
def e_c_settled : He.DefD := ⟨("Console", some "settled"), "settled", "Console.settled", defArgs h_c_settled, defBody h_c_settled, defScope h_c_settled, [], []⟩
def h_c_feed : Stmt := inClass (top 84) 7
def e_c_feed : He.DefD := ⟨("Console", some "feed"), "feed", "Console.feed", defArgs h_c_feed, defBody h_c_feed, defScope h_c_feed, [], []⟩
def h_c_change_line : Stmt := inClass (top 84) 9
def e_c_change_line : He.DefD := ⟨("Console", some "change_line"), "change_line", "Console.change_line", defArgs h_c_change_line, defBody h_c_change_line, defScope h_c_change_line, [], []⟩
def h_c_withdraw : Stmt := inClass (top 84) 10
def e_c_withdraw : He.DefD := ⟨("Console", some "withdraw"), "withdraw", "Console.withdraw", defArgs h_c_withdraw, defBody h_c_withdraw, defScope h_c_withdraw, [.int 1], []⟩
def h_r_init : Stmt := inClass (top 65) 0
def e_r_init : He.DefD := ⟨("Reading", some "__init__"), "__init__", "Reading.__init__", defArgs h_r_init, defBody h_r_init, defScope h_r_init, [.str ""], []⟩
def h_b_all_lines : Stmt := inClass (top 73) 2
def e_b_all_lines : He.DefD := ⟨("Buffer", some "all_lines"), "all_lines", "Buffer.all_lines", defArgs h_b_all_lines, defBody h_b_all_lines, defScope h_b_all_lines, [], []⟩
def h_b_text : Stmt := inClass (top 73) 3
def e_b_text : He.DefD := ⟨("Buffer", some "text"), "text", "Buffer.text", defArgs h_b_text, defBody h_b_text, defScope h_b_text, [], []⟩
def h_b_verdict : Stmt := inClass (top 73) 4
def e_b_verdict : He.DefD := ⟨("Buffer", some "verdict"), "verdict", "Buffer.verdict", defArgs h_b_verdict, defBody h_b_verdict, defScope h_b_verdict, [], []⟩
def h_b_spot : Stmt := inClass (top 73) 5
def e_b_spot : He.DefD := ⟨("Buffer", some "spot"), "spot", "Buffer.spot", defArgs h_b_spot, defBody h_b_spot, defScope h_b_spot, [], []⟩
def h_c_prompt : Stmt := inClass (top 84) 1
def e_c_prompt : He.DefD := ⟨("Console", some "prompt"), "prompt", "Console.prompt", defArgs h_c_prompt, defBody h_c_prompt, defScope h_c_prompt, [], []⟩
def h_c_waiting : Stmt := inClass (top 84) 2
def e_c_waiting : He.DefD := ⟨("Console", some "waiting"), "waiting", "Console.waiting", defArgs h_c_waiting, defBody h_c_waiting, defScope h_c_waiting, [], []⟩
def h_c_spot : Stmt := inClass (top 84) 3
def e_c_spot : He.DefD := ⟨("Console", some "spot"), "spot", "Console.spot", defArgs h_c_spot, defBody h_c_spot, defScope h_c_spot, [], []⟩
def h_c_entered : Stmt := inClass (top 84) 4
def e_c_entered : He.DefD := ⟨("Console", some "entered"), "entered", "Console.entered", defArgs h_c_entered, defBody h_c_entered, defScope h_c_entered, [], []⟩
def h_r_verdict : Stmt := inClass (top 65) 2
def e_r_verdict : He.DefD := ⟨("Reading", some "verdict"), "verdict", "Reading.verdict", defArgs h_r_verdict, defBody h_r_verdict, defScope h_r_verdict, [], []⟩
def hnl : List He.DefD := [e_check_text, e_read_on, e_reread, e_check_line, e_law_begin, e_law_next, e_law_rough, e_law_is_so, e_law_right, e_law, e_b_init, e_b_len, e_b_exchanged, e_b_put_in, e_b_add, e_b_change, e_b_withdraw, e_h_init, e_h_add, e_h_newest, e_c_init, e_c_settled, e_c_feed, e_c_change_line, e_c_withdraw, e_r_init]
def gnl : List He.DefD := [e_b_all_lines, e_b_text, e_b_verdict, e_b_spot, e_c_prompt, e_c_waiting, e_c_spot, e_c_entered, e_r_verdict]
end Rp
namespace Rp
open PySem PySem.Spec PyProof.Rows L2
/-- the getter of a property -/
def gAd (K : PySem.W.Frag) (p : Str × Option Str) : Addr := match PySem.W.recIn K (He.fAd K p) "property" with
  | some (.ref g :: _) => g
  | _ => 0
def cAd (K : PySem.W.Frag) (x : Str) : Addr := He.ga K x
def cnames : List Str := ["Buffer", "History", "Console", "Reading"]
def flds : List (Str × Str) := [("Buffer", "own_state"), ("History", "bound"), ("History", "rows"), ("Console", "shelf"), ("Console", "open_buffer"), ("Console", "finished"), ("Reading", "signs"), ("Reading", "behind"), ("Reading", "good")]
def mths : List (Str × Str) := [("Buffer", "exchanged"), ("Buffer", "put_in"), ("Buffer", "add"), ("Buffer", "change"), ("Buffer", "withdraw"), ("Buffer", "__len__"), ("History", "add"), ("History", "newest"), ("Console", "settled"), ("Console", "feed"), ("Console", "change_line"), ("Console", "withdraw")]
def prps : List (Str × Str) := [("Buffer", "all_lines"), ("Buffer", "text"), ("Buffer", "verdict"), ("Buffer", "spot"), ("Console", "prompt"), ("Console", "waiting"), ("Console", "spot"), ("Console", "entered"), ("Reading", "verdict")]
def frees : List Str := ["len", "any", "all", "list", "dict", "isinstance", "str", "int", "bool", "range", "enumerate", "min", "repr", "tuple"]
def gnames : List Str := ["check_text", "read_on", "reread", "check_line", "_law_begin", "_law_next", "_law_rough", "_law_is_so", "_law_right"]
end Rp
namespace Rp
open PySem PySem.Spec PyProof.Rows L2
def vOf : Value → Option V
  | .none => some .non
  | .bool b => some (.bl b)
  | .int i _ => some (.int i)
  | .str x _ => some (.str x)
  | .ref a => some (.ref a)
  | _ => none
section
variable (K : PySem.W.Frag)
mutual
def repV : D → V → Bool
  | .non, .non => true
  | .bl b, .bl c => decide (b = c)
  | .int i, .int j => decide (i = j)
  | .str s, .str x => decide (toS s = x)
  | .tup ds, .ref a => match K.lookup a with
    | some ⟨.type c, _, .seq its _, _⟩ => decide (c = "tuple") && (decide (its.size ≤ sizeLine) && repVs ds its.toList)
    | _ => false
  | _, _ => false
def repVs : List D → List Value → Bool
  | [], [] => true
  | d :: ds, u :: us => (match vOf u with
    | some v => repV d v
    | none => false) && repVs ds us
  | _, _ => false
end
end
def repAll (K : PySem.W.Frag) : List V → List D → Bool
  | [], [] => true
  | v :: vs, d :: ds => repV K d v && repAll K vs ds
  | _, _ => false
/-- the name stands for u at n -/
def namB (K : PySem.W.Frag) (n : Addr) (x : Str) (d : D) : Bool := match PySem.W.nsIn K n x with
  | some (some u) => (match vOf u with
    | some v => repV K d v
    | none => false)
  | _ => false
abbrev fP (K : PySem.W.Frag) (p : Str × Str) : Addr := He.fAd K (p.1, some p.2)
def propB (K : PySem.W.Frag) (p : Str × Str) : Bool := He.eqO (PySem.W.findIn K (.ref (cAd K p.1)) p.2) (some (some (.ref (fP K p)))) && (He.eqO (PySem.W.specialIn K (.ref (fP K p)) "__get__") (some (some (.builtin "property.__get__"))) && (decide (PySem.W.takesIn K (.ref (fP K p)) = some true) &&
  (match PySem.W.recIn K (fP K p) "property" with
    | some (.ref _ :: _) => true
    | _ => false)))
/-- a getter's def, by terms -/
def fnG (K : PySem.W.Frag) (d : He.DefD) : He.FnW := match K.lookup (gAd K d.at_) with
  | some ⟨_, _, .func fd, _⟩ => some (fd.name, fd.qualname, fd.params, fd.body, fd.scope, fd.globals, fd.closure, fd.builtins)
  | _ => none
def okG (K : PySem.W.Frag) (d : He.DefD) : Bool := PySem.W.keepIn K (.ref (gAd K d.at_)) && (match K.lookup (gAd K d.at_) with
  | some ⟨_, _, .func fd, _⟩ => PySem.W.codeIn K fd.code d.qual && (He.dflB K fd.defaults (d.dvs K) && He.kwdB K fd.kwdefaults (d.kws K))
  | _ => false)
end Rp
namespace Rp
open PySem PySem.Spec PyProof.Rows L2
abbrev RR : PySem.W.OpenRow := PySem.W.OpenLaw.row PySem.Challenge.rw_replinput_k66_whole_consoles_fed_with_li
def lo0 : List PySem.Str := ["_wall", "__name__", "ReaderError", "BadText", "BadLine", "BadIndex", "BadCount", "BadEntry", "ConsoleError", "WrongAt", "Full", "TooFew", "AbsentError", "NoLine", "KEYWORDS", "LETTERS", "DIGITS_signs", "OTHERS", "consists_of", "is_line"]
def lo1 : List PySem.Str := ["is_text", "DIGITS_states", "BINARY_WORDS", "HEADERS", "CHAINS", "DONE", "STARTS", "OPERANDS", "LINE_ENDS", "ANY_WORD", "CLAUSES", "CLOSERS", "State", "with_clauses", "after_line", "after_empty_line", "line_begun", "small_begun", "header_begun", "after_word"]
def lo2 : List PySem.Str := ["may_assign", "after_short", "after_long", "after_template", "after_operator", "after_word_sign", "after_number", "after_quote", "after_token", "after_operand_sign", "after_comma", "after_colon", "after_done_sign", "after_code_sign", "after_start_sign", "after_plain", "next_state", "check_text", "state_behind", "state_of"]
def lo3 : List PySem.Str := ["is_entry_state", "state_verdict", "Reading", "place_of", "MOST_LINES", "read_on", "reread", "check_line", "is_index", "Buffer", "is_entry", "GREATEST", "is_count", "History", "FRESH_PROMPT", "MORE_PROMPT", "WRONG_PROMPT", "Console", "_law_begin", "_law_mixed"]
def lo4 : List PySem.Str := ["_law_next", "_law_primary_end", "_law_operand", "_law_end_of", "_law_behind", "_law_ended", "_law_begun", "_law_step", "_law_line_end", "_law_is_wordy", "_law_keywords", "_law_can", "_law_line_begun", "_law_front", "_law_code", "_law_in_text", "_law_after", "_law_after_start", "_law_run", "_law_judged"]
def lo5 : List PySem.Str := ["_law_rough", "_law_is_so", "_law_settled", "_law_right"]
def loose : List PySem.Str := lo0 ++ (lo1 ++ (lo2 ++ (lo3 ++ (lo4 ++ (lo5)))))
def stN : Str := "State"
def cls5 : List Str := stN :: cnames
def gxN : List Str := ["State", "law", "CLAUSES", "CLOSERS"]
def faFree : List He.Fa := (frees ++ blts).map He.Fa.free
def faGlo : List He.Fa := (nm.fid.map (fun p => p.1) ++ (gnames ++ (cnames ++ gxN))).map He.Fa.glo
def faCls : List He.Fa := cls5.map He.Fa.cls
def faMkr : List He.Fa := cls5.map He.Fa.mkr
def faNo1 : List He.Fa := nm.fld.map (He.Fa.noat stN)
def faNo2 : List He.Fa := flds.map fun p => He.Fa.noat p.1 p.2
def faMe1 : List He.Fa := nm.mid.map fun p => He.Fa.meth stN p.1
def faMe2 : List He.Fa := mths.map fun p => He.Fa.meth p.1 p.2
def faCon : List He.Fa := [.str "FRESH_PROMPT" ">>> ", .str "MORE_PROMPT" "... ", .str "WRONG_PROMPT" "!!! ", .int "MOST_LINES" 300, .int "GREATEST" 100]
def faR : List He.Fa := faFree ++ (faGlo ++ (faCls ++ (faMkr ++ (faNo1 ++ (faNo2 ++ (faMe1 ++ (faMe2 ++ faCon)))))))
noncomputable section
def fnR : List He.DefD := fnl ++ hnl
def tsR : List He.Tab := [((fun K => He.ga K "CLAUSES"), ["", "if", "try", "except"]), ((fun K => He.ga K "CLOSERS"), ["(", "c", "p", "[", "i", "{k", "{v", "f"])]
def exR (K : PySem.W.Frag) : Bool := cnames.all (fun x => !(Nat.beq (cAd K x) (He.ga K stN))) && (prps.all (propB K) && (gnl.all (okG K) && (nm.gid.all (fun p => match gt.glo p.2 with
    | some d => namB K mainGlobals p.1 d
    | none => true) &&
  (nm.tid.all (fun p => ((gt.tab p.2).1.zip (gt.tab p.2).2).all fun q => namB K (He.ga K p.1) (toS q.1) q.2) && (repAll K (d_in_phase.dvs K) f_in_phase.dfl && repAll K (d_init.dvs K) sdfl)))))
abbrev AlR : Type := He.AlT × (List He.FnW × Bool)
/-- what these objects name -/
def lvR (g : Addr → Option Obj) (as : List Addr) : List Addr := as.flatMap fun a => match g a with
  | some o => He.refsD o
  | none => []
/-- what the module's names reach in six steps, the near ones first -/
def kR (g : Addr → Option Obj) : PySem.W.Frag := He.frG g (mainGlobals :: (lvR g [mainGlobals] ++ (lvR g (lvR g [mainGlobals]) ++ (lvR g (lvR g (lvR g [mainGlobals])) ++ (lvR g (lvR g (lvR g (lvR g [mainGlobals]))) ++ (lvR g (lvR g (lvR g (lvR g (lvR g [mainGlobals])))) ++ lvR g (lvR g (lvR g (lvR g (lvR g (lvR g [mainGlobals])))))))))))
def obsR (K : PySem.W.Frag) : AlR := (He.obsT faR fnR tsR K, (gnl.map (fnG K), exR K))
def valR (w : World) : AlR := (He.valT fnR tsR w, (gnl.map He.DefD.val, true))
def hookR : PySem.W.Hook where
  α := AlR
  obs := fun s => obsR (kR s.heap.get?)
  val := valR
  says := fun w h => ∃ K : PySem.W.Frag, K.In h ∧ obsR K = valR w
  of := fun _ _ e => ⟨_, He.frG_in, e⟩
  keeps := fun _ _ _ ⟨K, hK, c⟩ k => ⟨K, PySem.W.Frag.In.keeps hK k, c⟩
def obR (s : PySem.W.SharedT) : AlR := obsR (kR (HandSHeadRun.getT s))
theorem obR_eq (s : PySem.W.SharedT) : obR s = hookR.obs s.abs := by
  have e : HandSHeadRun.getT s = s.abs.heap.get? := funext fun a => HandSHeadRun.getT_eq s a
  show obsR (kR (HandSHeadRun.getT s)) = obsR (kR s.abs.heap.get?)
  rw [e]
abbrev kT (s : PySem.W.SharedT) : PySem.W.Frag := kR (HandSHeadRun.getT s)
/-- the top's end -/
abbrev topE (w : World) (os : OsState) : Option PySem.W.SharedT := HandSHeadRun.endF (HandSHeadRun.stepQ (HandSHeadRun.denQ HandSHeadRun.tabQ) RR.prog w) 20000 RR.prog w os
abbrev wF (w : World) : World := w.withFollow "special-get-raises" false
abbrev wT (w : World) : World := w.withFollow "special-get-raises" true
abbrev qR : Program := PySem.W.view RR.prog [112]
def looksR (w : World) (s : PySem.W.SharedT) := HandSHeadRun.looksF RR.prog (PySem.W.boot_heap w.params) s.abs
def seenR (s : PySem.W.SharedT) := HandSHeadRun.seenQ qR loose (importedModules RR.prog.main.body) (fun s => PySem.W.xlAt qR [] s && PySem.W.recOk RR.toRowW.records s) s.abs
def RunA (w : World) : Prop := ∀ os, (topE w os).map (fun s => (looksR w s, seenR s)) = some (true, PySem.W.openGood qR loose)
def RunB (w : World) : Prop := ∀ os, (topE w os).map (fun s => (faR.all fun f => f.ok (kT s), (exR (kT s), tsR.map fun t => He.dicW (kT s) (t.1 (kT s))))) = some (true, (true, tsR.map fun t => some (He.keysIn w.params t.2)))
def RunC (w : World) : Prop := ∀ os, (topE w os).map (fun s => (fnR.all fun d => d.ok (kT s), (fnR.map fun d => He.fnW (kT s) d.at_, gnl.map (fnG (kT s))))) = some (true, (fnR.map He.DefD.val, gnl.map He.DefD.val))
theorem comb {A B C D E F G I : Type} {o : Option PySem.W.SharedT} {a : PySem.W.SharedT → A} {b : PySem.W.SharedT → B} {c : PySem.W.SharedT → Bool} {d : PySem.W.SharedT → D} {e : PySem.W.SharedT → E} {f : PySem.W.SharedT → Bool} {g : PySem.W.SharedT → G} {i : PySem.W.SharedT → I} {a0 : A} {b0 : B} {d0 : D} {e0 : E} {g0 : G} {i0 : I}
    (h1 : o.map (fun s => (a s, b s)) = some (a0, b0)) (h2 : o.map (fun s => (c s, (d s, e s))) = some (true, (d0, e0))) (h3 : o.map (fun s => (f s, (g s, i s))) = some (true, (g0, i0))) :
    o.map (fun s => (a s, b s, ((((c s && f s), g s), e s), (i s, d s)))) = some (a0, b0, (((true, g0), e0), (i0, d0))) := by
  cases o with
  | none => cases h1
  | some s =>
    have k1 := Option.some.inj h1
    have k2 := Option.some.inj h2
    have k3 := Option.some.inj h3
    simp only [Prod.mk.injEq] at k1 k2 k3
    show some (a s, b s, ((((c s && f s), g s), e s), (i s, d s))) = _
    rw [k1.1, k1.2, k2.1, k2.2.1, k2.2.2, k3.1, k3.2.1, k3.2.2]
    rfl
theorem obR_def (s : PySem.W.SharedT) : obR s = (((((faR.all fun f => f.ok (kT s)) && (fnR.all fun d => d.ok (kT s))), fnR.map fun d => He.fnW (kT s) d.at_), tsR.map fun t => He.dicW (kT s) (t.1 (kT s))), (gnl.map (fnG (kT s)), exR (kT s))) := rfl
end
end Rp
namespace Rp
theorem topAF (w : PySem.World) : RunA (wF w) := by
  intro os
  kernel_rfl
end Rp
namespace Rp
theorem topBF (w : PySem.World) : RunB (wF w) := by
  intro os
  kernel_rfl
end Rp
namespace Rp
theorem topCF (w : PySem.World) : RunC (wF w) := by
  intro os
  kernel_rfl
end Rp
namespace Rp
theorem topAT (w : PySem.World) : RunA (wT w) := by
  intro os
  kernel_rfl
end Rp
namespace Rp
theorem topBT (w : PySem.World) : RunB (wT w) := by
  intro os
  kernel_rfl
end Rp
namespace Rp
theorem topCT (w : PySem.World) : RunC (wT w) := by
  intro os
  kernel_rfl
end Rp
namespace Rp
open PySem PySem.Spec PyProof.Rows L2
theorem run_of {w : World} (hA : RunA w) (hB : RunB w) (hC : RunC w) : HandSHeadRun.RunEq RR qR hookR obR 20000 loose w := by
  intro os
  have h := comb (C := Unit) (F := Unit) (hA os) (hB os) (hC os)
  have e : (fun s => (looksR w s, seenR s, obR s)) = fun s => (looksR w s, seenR s, (((((faR.all fun f => f.ok (kT s)) && (fnR.all fun d => d.ok (kT s))), fnR.map fun d => He.fnW (kT s) d.at_), tsR.map fun t => He.dicW (kT s) (t.1 (kT s))), (gnl.map (fnG (kT s)), exR (kT s)))) := funext fun s => by rw [obR_def s]
  have h2 : (topE w os).map (fun s => (looksR w s, seenR s, obR s)) = some (true, PySem.W.openGood qR loose, valR w) := by
    rw [e]
    exact h
  exact h2
theorem run_all (w : World) : HandSHeadRun.RunEq RR qR hookR obR 20000 loose w :=
  PySem.W.byRow2 "special-get-raises" (P := fun w => HandSHeadRun.RunEq RR qR hookR obR 20000 loose w) (fun w => run_of (topAF w) (topBF w) (topCF w)) (fun w => run_of (topAT w) (topBT w) (topCT w)) w
end Rp
namespace Rp
open PySem PySem.Spec PyProof.Rows L2
def c32 : Ch := ⟨32, Nat.le_of_ble_eq_true rfl⟩
def c34 : Ch := ⟨34, Nat.le_of_ble_eq_true rfl⟩
def c35 : Ch := ⟨35, Nat.le_of_ble_eq_true rfl⟩
def c36 : Ch := ⟨36, Nat.le_of_ble_eq_true rfl⟩
def c39 : Ch := ⟨39, Nat.le_of_ble_eq_true rfl⟩
def c40 : Ch := ⟨40, Nat.le_of_ble_eq_true rfl⟩
def c41 : Ch := ⟨41, Nat.le_of_ble_eq_true rfl⟩
def c43 : Ch := ⟨43, Nat.le_of_ble_eq_true rfl⟩
def c44 : Ch := ⟨44, Nat.le_of_ble_eq_true rfl⟩
def c45 : Ch := ⟨45, Nat.le_of_ble_eq_true rfl⟩
def c46 : Ch := ⟨46, Nat.le_of_ble_eq_true rfl⟩
def c48 : Ch := ⟨48, Nat.le_of_ble_eq_true rfl⟩
def c49 : Ch := ⟨49, Nat.le_of_ble_eq_true rfl⟩
def c50 : Ch := ⟨50, Nat.le_of_ble_eq_true rfl⟩
def c58 : Ch := ⟨58, Nat.le_of_ble_eq_true rfl⟩
def c59 : Ch := ⟨59, Nat.le_of_ble_eq_true rfl⟩
def c60 : Ch := ⟨60, Nat.le_of_ble_eq_true rfl⟩
def c61 : Ch := ⟨61, Nat.le_of_ble_eq_true rfl⟩
def c91 : Ch := ⟨91, Nat.le_of_ble_eq_true rfl⟩
def c92 : Ch := ⟨92, Nat.le_of_ble_eq_true rfl⟩
def c93 : Ch := ⟨93, Nat.le_of_ble_eq_true rfl⟩
def c97 : Ch := ⟨97, Nat.le_of_ble_eq_true rfl⟩
def c98 : Ch := ⟨98, Nat.le_of_ble_eq_true rfl⟩
def c99 : Ch := ⟨99, Nat.le_of_ble_eq_true rfl⟩
def c100 : Ch := ⟨100, Nat.le_of_ble_eq_true rfl⟩
def c101 : Ch := ⟨101, Nat.le_of_ble_eq_true rfl⟩
def c102 : Ch := ⟨102, Nat.le_of_ble_eq_true rfl⟩
def c103 : Ch := ⟨103, Nat.le_of_ble_eq_true rfl⟩
def c104 : Ch := ⟨104, Nat.le_of_ble_eq_true rfl⟩
def c105 : Ch := ⟨105, Nat.le_of_ble_eq_true rfl⟩
def c107 : Ch := ⟨107, Nat.le_of_ble_eq_true rfl⟩
def c108 : Ch := ⟨108, Nat.le_of_ble_eq_true rfl⟩
def c109 : Ch := ⟨109, Nat.le_of_ble_eq_true rfl⟩
def c110 : Ch := ⟨110, Nat.le_of_ble_eq_true rfl⟩
def c111 : Ch := ⟨111, Nat.le_of_ble_eq_true rfl⟩
def c112 : Ch := ⟨112, Nat.le_of_ble_eq_true rfl⟩
def c114 : Ch := ⟨114, Nat.le_of_ble_eq_true rfl⟩
def c115 : Ch := ⟨115, Nat.le_of_ble_eq_true rfl⟩
def c116 : Ch := ⟨116, Nat.le_of_ble_eq_true rfl⟩
def c117 : Ch := ⟨117, Nat.le_of_ble_eq_true rfl⟩
def c119 : Ch := ⟨119, Nat.le_of_ble_eq_true rfl⟩
def c120 : Ch := ⟨120, Nat.le_of_ble_eq_true rfl⟩
def c121 : Ch := ⟨121, Nat.le_of_ble_eq_true rfl⟩
def c122 : Ch := ⟨122, Nat.le_of_ble_eq_true rfl⟩
def c123 : Ch := ⟨123, Nat.le_of_ble_eq_true rfl⟩
def c125 : Ch := ⟨125, Nat.le_of_ble_eq_true rfl⟩
end Rp
namespace Rp
open PySem PySem.Spec PyProof.Rows L2
/-- what a line does: wrong at a column; another state without an open bracket; the first bracket opens; a bracket's state; one more bracket; the innermost closes -/
inductive LO where
  | err (c : Nat) | n (i : Nat) | b (t : Nat) | stay (t : Nat) | push (t : Nat) | pop
  deriving DecidableEq
def lines : List (List Ch) := [
  [c120, c32, c61, c32, c49],
  [c105, c102, c32, c97, c58],
  [c32, c32, c98],
  [c101, c108, c115, c101, c58],
  [c119, c104, c105, c108, c101, c32, c120, c58, c32, c98, c114, c101, c97, c107],
  [c100, c101, c102, c32, c102, c40, c97, c44, c32, c98, c41, c58],
  [c32, c32, c114, c101, c116, c117, c114, c110, c32, c120],
  [c32, c32, c32, c32, c112, c97, c115, c115],
  [c116, c114, c121, c58],
  [c101, c120, c99, c101, c112, c116, c32, c101, c58],
  [c102, c105, c110, c97, c108, c108, c121, c58, c32, c121],
  [c102, c40, c97, c44, c32, c98, c61, c49, c41, c91, c48, c93, c46, c99],
  [c40, c120, c44],
  [c32, c32, c121, c41],
  [c36, c34, c97, c123, c98, c125, c99, c34],
  [c39, c39, c39, c115],
  [c116, c39, c39, c39],
  [c120, c32, c92],
  [c43, c32, c121],
  [c35, c32, c99],
  [],
  [c32, c32, c35, c32, c100],
  [c102, c111, c114, c32, c105, c32, c105, c110, c32, c122, c58],
  [c32, c32, c98, c114, c101, c97, c107],
  [c101, c108, c105, c102, c32, c40, c49, c32, c60, c61, c32, c50, c41, c58],
  [c123, c97, c58, c32, c91, c93, c44, c32, c39, c98, c39, c58, c32, c45, c99, c125],
  [c32, c32, c105, c102, c32, c110, c111, c116, c32, c100, c58, c32, c101, c59, c32, c102]]
def nP : List D := [
  (.ins 0 [(.tup []), (.tup [(.str [c115, c116, c97, c114, c116]), (.int 0), (.tup [])]), (.tup []), (.str []), (.tup [])]),
  (.ins 0 [(.tup []), (.tup [(.str [c100, c111, c110, c101])]), (.tup []), (.str []), (.tup [])]),
  (.ins 0 [(.tup [(.tup [(.int 0), (.str [c105, c102]), (.bl false), (.bl false)])]), (.tup [(.str [c115, c116, c97, c114, c116]), (.int 0), (.tup [(.bl false), (.bl false)])]), (.tup []), (.str []), (.tup [])]),
  (.ins 0 [(.tup [(.tup [(.int 0), (.str []), (.bl false), (.bl false)])]), (.tup [(.str [c115, c116, c97, c114, c116]), (.int 0), (.tup [])]), (.tup []), (.str []), (.tup [])]),
  (.ins 0 [(.tup [(.tup [(.int 0), (.str []), (.bl false), (.bl false)])]), (.tup [(.str [c115, c116, c97, c114, c116]), (.int 0), (.tup [(.bl true), (.bl false)])]), (.tup []), (.str []), (.tup [])]),
  (.ins 0 [(.tup [(.tup [(.int 0), (.str [c116, c114, c121]), (.bl false), (.bl false)])]), (.tup [(.str [c115, c116, c97, c114, c116]), (.int 0), (.tup [(.bl false), (.bl false)])]), (.tup []), (.str []), (.tup [])]),
  (.ins 0 [(.tup [(.tup [(.int 0), (.str []), (.bl false), (.bl false)])]), (.tup [(.str [c115, c109, c97, c108, c108]), (.str []), (.bl false), (.bl false), (.bl true)]), (.tup []), (.str []), (.tup [(.str [c108, c111, c110, c103]), (.str [c39]), (.str [c99, c104, c97, c105, c110]), (.int 0), (.bl false)])]),
  (.ins 0 [(.tup [(.tup [(.int 0), (.str []), (.bl false), (.bl false)])]), (.tup [(.str [c115, c109, c97, c108, c108]), (.str []), (.bl false), (.bl false), (.bl true)]), (.tup []), (.str [c116, c97, c114, c103, c101, c116]), (.tup [])]),
  (.ins 0 [(.tup [(.tup [(.int 0), (.str []), (.bl false), (.bl false)])]), (.tup [(.str [c115, c116, c97, c114, c116]), (.int 0), (.tup [(.bl false), (.bl true)])]), (.tup []), (.str []), (.tup [])]),
  (.ins 0 [(.tup [(.tup [(.int 0), (.str [c105, c102]), (.bl false), (.bl false)]), (.tup [(.int 2), (.str []), (.bl false), (.bl false)])]), (.tup [(.str [c115, c116, c97, c114, c116]), (.int 0), (.tup [])]), (.tup []), (.str []), (.tup [])]),
  (.ins 0 [(.tup [(.tup [(.int 0), (.str [c105, c102]), (.bl false), (.bl false)]), (.tup [(.int 4), (.str []), (.bl false), (.bl false)])]), (.tup [(.str [c115, c116, c97, c114, c116]), (.int 0), (.tup [])]), (.tup []), (.str []), (.tup [])]),
  (.ins 0 [(.tup [(.tup [(.int 0), (.str [c105, c102]), (.bl false), (.bl false)]), (.tup [(.int 2), (.str [c105, c102]), (.bl false), (.bl false)])]), (.tup [(.str [c115, c116, c97, c114, c116]), (.int 0), (.tup [])]), (.tup []), (.str []), (.tup [])]),
  (.ins 0 [(.tup [(.tup [(.int 0), (.str []), (.bl false), (.bl false)]), (.tup [(.int 2), (.str []), (.bl true), (.bl false)])]), (.tup [(.str [c115, c116, c97, c114, c116]), (.int 0), (.tup [])]), (.tup []), (.str []), (.tup [])]),
  (.ins 0 [(.tup [(.tup [(.int 0), (.str []), (.bl false), (.bl false)]), (.tup [(.int 4), (.str []), (.bl true), (.bl false)])]), (.tup [(.str [c115, c116, c97, c114, c116]), (.int 0), (.tup [])]), (.tup []), (.str []), (.tup [])]),
  (.ins 0 [(.tup [(.tup [(.int 0), (.str []), (.bl false), (.bl false)]), (.tup [(.int 2), (.str [c105, c102]), (.bl true), (.bl false)])]), (.tup [(.str [c115, c116, c97, c114, c116]), (.int 0), (.tup [])]), (.tup []), (.str []), (.tup [])]),
  (.ins 0 [(.tup [(.tup [(.int 0), (.str [c116, c114, c121]), (.bl false), (.bl false)]), (.tup [(.int 2), (.str []), (.bl false), (.bl false)])]), (.tup [(.str [c115, c116, c97, c114, c116]), (.int 0), (.tup [])]), (.tup []), (.str []), (.tup [])]),
  (.ins 0 [(.tup [(.tup [(.int 0), (.str [c116, c114, c121]), (.bl false), (.bl false)]), (.tup [(.int 4), (.str []), (.bl false), (.bl false)])]), (.tup [(.str [c115, c116, c97, c114, c116]), (.int 0), (.tup [])]), (.tup []), (.str []), (.tup [])]),
  (.ins 0 [(.tup [(.tup [(.int 0), (.str [c116, c114, c121]), (.bl false), (.bl false)]), (.tup [(.int 2), (.str [c105, c102]), (.bl false), (.bl false)])]), (.tup [(.str [c115, c116, c97, c114, c116]), (.int 0), (.tup [])]), (.tup []), (.str []), (.tup [])]),
  (.ins 0 [(.tup [(.tup [(.int 0), (.str []), (.bl false), (.bl false)]), (.tup [(.int 2), (.str []), (.bl false), (.bl true)])]), (.tup [(.str [c115, c116, c97, c114, c116]), (.int 0), (.tup [])]), (.tup []), (.str []), (.tup [])]),
  (.ins 0 [(.tup [(.tup [(.int 0), (.str []), (.bl false), (.bl false)]), (.tup [(.int 4), (.str []), (.bl false), (.bl true)])]), (.tup [(.str [c115, c116, c97, c114, c116]), (.int 0), (.tup [])]), (.tup []), (.str []), (.tup [])]),
  (.ins 0 [(.tup [(.tup [(.int 0), (.str []), (.bl false), (.bl false)]), (.tup [(.int 2), (.str [c105, c102]), (.bl false), (.bl true)])]), (.tup [(.str [c115, c116, c97, c114, c116]), (.int 0), (.tup [])]), (.tup []), (.str []), (.tup [])]),
  (.ins 0 [(.tup [(.tup [(.int 0), (.str []), (.bl false), (.bl false)])]), (.tup [(.str [c115, c116, c97, c114, c116]), (.int 0), (.tup [(.bl false), (.bl false)])]), (.tup []), (.str []), (.tup [])]),
  (.ins 0 [(.tup [(.tup [(.int 0), (.str [c101, c120, c99, c101, c112, c116]), (.bl false), (.bl false)])]), (.tup [(.str [c115, c116, c97, c114, c116]), (.int 0), (.tup [(.bl false), (.bl false)])]), (.tup []), (.str []), (.tup [])]),
  (.ins 0 [(.tup [(.tup [(.int 0), (.str []), (.bl false), (.bl false)]), (.tup [(.int 2), (.str []), (.bl false), (.bl false)])]), (.tup [(.str [c115, c116, c97, c114, c116]), (.int 0), (.tup [])]), (.tup []), (.str []), (.tup [])]),
  (.ins 0 [(.tup [(.tup [(.int 0), (.str []), (.bl false), (.bl false)]), (.tup [(.int 4), (.str []), (.bl false), (.bl false)])]), (.tup [(.str [c115, c116, c97, c114, c116]), (.int 0), (.tup [])]), (.tup []), (.str []), (.tup [])]),
  (.ins 0 [(.tup [(.tup [(.int 0), (.str []), (.bl false), (.bl false)]), (.tup [(.int 2), (.str [c105, c102]), (.bl false), (.bl false)])]), (.tup [(.str [c115, c116, c97, c114, c116]), (.int 0), (.tup [])]), (.tup []), (.str []), (.tup [])]),
  (.ins 0 [(.tup [(.tup [(.int 0), (.str [c101, c120, c99, c101, c112, c116]), (.bl false), (.bl false)]), (.tup [(.int 2), (.str []), (.bl false), (.bl false)])]), (.tup [(.str [c115, c116, c97, c114, c116]), (.int 0), (.tup [])]), (.tup []), (.str []), (.tup [])]),
  (.ins 0 [(.tup [(.tup [(.int 0), (.str [c101, c120, c99, c101, c112, c116]), (.bl false), (.bl false)]), (.tup [(.int 4), (.str []), (.bl false), (.bl false)])]), (.tup [(.str [c115, c116, c97, c114, c116]), (.int 0), (.tup [])]), (.tup []), (.str []), (.tup [])]),
  (.ins 0 [(.tup [(.tup [(.int 0), (.str [c101, c120, c99, c101, c112, c116]), (.bl false), (.bl false)]), (.tup [(.int 2), (.str [c105, c102]), (.bl false), (.bl false)])]), (.tup [(.str [c115, c116, c97, c114, c116]), (.int 0), (.tup [])]), (.tup []), (.str []), (.tup [])])]
def tN : List (List LO) := [
  [.n 1, .n 2, .err 2, .err 4, .n 3, .n 4, .err 2, .err 4, .n 5, .err 6, .err 7, .n 1, .b 0, .err 2, .n 1, .n 6, .err 1, .n 7, .err 0, .n 0, .n 0, .n 0, .n 8, .err 2, .err 4, .n 1, .err 2],
  [.err 0, .err 0, .err 0, .err 0, .err 0, .err 0, .err 0, .err 0, .err 0, .err 0, .err 0, .err 0, .err 0, .err 0, .err 0, .err 0, .err 0, .err 0, .err 0, .err 0, .err 0, .err 0, .err 0, .err 0, .err 0, .err 0, .err 0],
  [.err 0, .err 0, .n 9, .err 0, .err 0, .err 0, .err 8, .n 10, .err 0, .err 0, .err 0, .err 0, .err 0, .err 3, .err 0, .err 0, .err 0, .err 0, .err 0, .n 2, .err 0, .n 2, .err 0, .err 7, .err 0, .err 0, .n 11],
  [.err 0, .err 0, .err 2, .err 0, .err 0, .err 0, .err 2, .err 4, .err 0, .err 0, .err 0, .err 0, .err 0, .err 2, .err 0, .err 0, .err 0, .err 0, .err 0, .n 3, .n 1, .n 3, .err 0, .err 2, .err 0, .err 0, .err 2],
  [.err 0, .err 0, .n 12, .err 0, .err 0, .err 0, .n 12, .n 13, .err 0, .err 0, .err 0, .err 0, .err 0, .err 3, .err 0, .err 0, .err 0, .err 0, .err 0, .n 4, .err 0, .n 4, .err 0, .err 7, .err 0, .err 0, .n 14],
  [.err 0, .err 0, .n 15, .err 0, .err 0, .err 0, .err 8, .n 16, .err 0, .err 0, .err 0, .err 0, .err 0, .err 3, .err 0, .err 0, .err 0, .err 0, .err 0, .n 5, .err 0, .n 5, .err 0, .err 7, .err 0, .err 0, .n 17],
  [.n 6, .n 6, .n 6, .n 6, .n 6, .n 6, .n 6, .n 6, .n 6, .n 6, .n 6, .n 6, .n 6, .n 6, .n 6, .err 3, .n 1, .n 6, .n 6, .n 6, .n 6, .n 6, .n 6, .n 6, .n 6, .n 6, .n 6],
  [.err 0, .err 1, .err 2, .err 0, .err 0, .err 0, .err 2, .err 4, .err 0, .err 0, .err 0, .err 0, .b 3, .err 2, .err 0, .err 0, .err 0, .err 0, .n 1, .n 1, .n 1, .n 1, .err 0, .err 2, .err 0, .err 0, .err 3],
  [.err 0, .err 0, .n 18, .err 0, .err 0, .err 0, .err 8, .n 19, .err 0, .err 0, .err 0, .err 0, .err 0, .err 3, .err 0, .err 0, .err 0, .err 0, .err 0, .n 8, .err 0, .n 8, .err 0, .n 18, .err 0, .err 0, .n 20],
  [.err 0, .err 0, .n 9, .n 21, .err 0, .err 0, .err 8, .err 4, .err 0, .err 1, .err 0, .err 0, .err 0, .err 3, .err 0, .err 0, .err 0, .err 0, .err 0, .n 9, .n 1, .n 9, .err 0, .err 7, .n 2, .err 0, .n 11],
  [.err 0, .err 0, .err 2, .n 21, .err 0, .err 0, .err 2, .n 10, .err 0, .err 1, .err 0, .err 0, .err 0, .err 2, .err 0, .err 0, .err 0, .err 0, .err 0, .n 10, .n 1, .n 10, .err 0, .err 2, .n 2, .err 0, .err 2],
  [.err 0, .err 0, .n 9, .n 21, .err 0, .err 0, .err 8, .err 4, .err 0, .err 1, .err 0, .err 0, .err 0, .err 3, .err 0, .err 0, .err 0, .err 0, .err 0, .n 11, .n 1, .n 11, .err 0, .err 7, .n 2, .err 0, .n 11],
  [.err 0, .err 0, .n 12, .err 0, .err 0, .err 0, .n 12, .err 4, .err 0, .err 0, .err 0, .err 0, .err 0, .err 3, .err 0, .err 0, .err 0, .err 0, .err 0, .n 12, .n 1, .n 12, .err 0, .err 7, .err 0, .err 0, .n 14],
  [.err 0, .err 0, .err 2, .err 0, .err 0, .err 0, .err 2, .n 13, .err 0, .err 0, .err 0, .err 0, .err 0, .err 2, .err 0, .err 0, .err 0, .err 0, .err 0, .n 13, .n 1, .n 13, .err 0, .err 2, .err 0, .err 0, .err 2],
  [.err 0, .err 0, .n 12, .err 0, .err 0, .err 0, .n 12, .err 4, .err 0, .err 0, .err 0, .err 0, .err 0, .err 3, .err 0, .err 0, .err 0, .err 0, .err 0, .n 14, .n 1, .n 14, .err 0, .err 7, .err 0, .err 0, .n 14],
  [.err 0, .err 0, .n 15, .err 1, .err 0, .err 0, .err 8, .err 4, .err 0, .n 22, .n 3, .err 1, .err 0, .err 3, .err 0, .err 0, .err 0, .err 0, .err 0, .n 15, .err 0, .n 15, .err 1, .err 7, .err 1, .err 0, .n 17],
  [.err 0, .err 0, .err 2, .err 1, .err 0, .err 0, .err 2, .n 16, .err 0, .n 22, .n 3, .err 1, .err 0, .err 2, .err 0, .err 0, .err 0, .err 0, .err 0, .n 16, .err 0, .n 16, .err 1, .err 2, .err 1, .err 0, .err 2],
  [.err 0, .err 0, .n 15, .err 1, .err 0, .err 0, .err 8, .err 4, .err 0, .n 22, .n 3, .err 1, .err 0, .err 3, .err 0, .err 0, .err 0, .err 0, .err 0, .n 17, .err 0, .n 17, .err 1, .err 7, .err 1, .err 0, .n 17],
  [.err 0, .err 0, .n 18, .err 0, .err 0, .err 0, .err 8, .err 4, .err 0, .err 0, .err 0, .err 0, .err 0, .err 3, .err 0, .err 0, .err 0, .err 0, .err 0, .n 18, .n 1, .n 18, .err 0, .n 18, .err 0, .err 0, .n 20],
  [.err 0, .err 0, .err 2, .err 0, .err 0, .err 0, .err 2, .n 19, .err 0, .err 0, .err 0, .err 0, .err 0, .err 2, .err 0, .err 0, .err 0, .err 0, .err 0, .n 19, .n 1, .n 19, .err 0, .err 2, .err 0, .err 0, .err 2],
  [.err 0, .err 0, .n 18, .err 0, .err 0, .err 0, .err 8, .err 4, .err 0, .err 0, .err 0, .err 0, .err 0, .err 3, .err 0, .err 0, .err 0, .err 0, .err 0, .n 20, .n 1, .n 20, .err 0, .n 18, .err 0, .err 0, .n 20],
  [.err 0, .err 0, .n 23, .err 0, .err 0, .err 0, .err 8, .n 24, .err 0, .err 0, .err 0, .err 0, .err 0, .err 3, .err 0, .err 0, .err 0, .err 0, .err 0, .n 21, .err 0, .n 21, .err 0, .err 7, .err 0, .err 0, .n 25],
  [.err 0, .err 0, .n 26, .err 0, .err 0, .err 0, .err 8, .n 27, .err 0, .err 0, .err 0, .err 0, .err 0, .err 3, .err 0, .err 0, .err 0, .err 0, .err 0, .n 22, .err 0, .n 22, .err 0, .err 7, .err 0, .err 0, .n 28],
  [.err 0, .err 0, .n 23, .err 0, .err 0, .err 0, .err 8, .err 4, .err 0, .err 0, .err 0, .err 0, .err 0, .err 3, .err 0, .err 0, .err 0, .err 0, .err 0, .n 23, .n 1, .n 23, .err 0, .err 7, .err 0, .err 0, .n 25],
  [.err 0, .err 0, .err 2, .err 0, .err 0, .err 0, .err 2, .n 24, .err 0, .err 0, .err 0, .err 0, .err 0, .err 2, .err 0, .err 0, .err 0, .err 0, .err 0, .n 24, .n 1, .n 24, .err 0, .err 2, .err 0, .err 0, .err 2],
  [.err 0, .err 0, .n 23, .err 0, .err 0, .err 0, .err 8, .err 4, .err 0, .err 0, .err 0, .err 0, .err 0, .err 3, .err 0, .err 0, .err 0, .err 0, .err 0, .n 25, .n 1, .n 25, .err 0, .err 7, .err 0, .err 0, .n 25],
  [.err 0, .err 0, .n 26, .err 1, .err 0, .err 0, .err 8, .err 4, .err 0, .n 22, .n 3, .err 1, .err 0, .err 3, .err 0, .err 0, .err 0, .err 0, .err 0, .n 26, .n 1, .n 26, .err 1, .err 7, .err 1, .err 0, .n 28],
  [.err 0, .err 0, .err 2, .err 1, .err 0, .err 0, .err 2, .n 27, .err 0, .n 22, .n 3, .err 1, .err 0, .err 2, .err 0, .err 0, .err 0, .err 0, .err 0, .n 27, .n 1, .n 27, .err 1, .err 2, .err 1, .err 0, .err 2],
  [.err 0, .err 0, .n 26, .err 1, .err 0, .err 0, .err 8, .err 4, .err 0, .n 22, .n 3, .err 1, .err 0, .err 3, .err 0, .err 0, .err 0, .err 0, .err 0, .n 28, .n 1, .n 28, .err 1, .err 7, .err 1, .err 0, .n 28]]
def tB1 : List (List LO) := [
  [.err 3, .err 2, .stay 1, .err 4, .err 5, .err 3, .err 8, .err 8, .err 3, .err 6, .err 7, .stay 1, .push 0, .n 1, .stay 1, .stay 2, .err 1, .stay 1, .err 0, .stay 0, .stay 0, .stay 0, .err 3, .err 7, .err 4, .stay 1, .err 4],
  [.err 0, .err 1, .err 2, .err 0, .err 0, .err 0, .err 2, .err 4, .err 0, .err 0, .err 0, .err 0, .push 3, .err 2, .err 0, .err 0, .err 0, .err 0, .stay 1, .stay 1, .stay 1, .stay 1, .err 0, .err 2, .err 0, .err 0, .err 3],
  [.stay 2, .stay 2, .stay 2, .stay 2, .stay 2, .stay 2, .stay 2, .stay 2, .stay 2, .stay 2, .stay 2, .stay 2, .stay 2, .stay 2, .stay 2, .err 3, .stay 1, .stay 2, .stay 2, .stay 2, .stay 2, .stay 2, .stay 2, .stay 2, .stay 2, .stay 2, .stay 2],
  [.stay 4, .err 2, .stay 5, .err 4, .err 5, .err 3, .err 8, .err 8, .err 3, .err 6, .err 7, .stay 6, .push 0, .n 1, .stay 6, .stay 7, .err 1, .stay 5, .err 0, .stay 3, .stay 3, .stay 3, .err 3, .err 7, .err 4, .stay 6, .err 4],
  [.err 0, .err 1, .err 2, .err 0, .err 0, .err 0, .err 2, .err 4, .err 0, .err 0, .err 0, .err 0, .err 0, .err 2, .err 0, .err 0, .err 0, .err 0, .stay 6, .stay 4, .stay 4, .stay 4, .err 0, .err 2, .err 0, .err 0, .err 3],
  [.err 0, .err 1, .err 2, .err 0, .err 0, .err 0, .err 2, .err 4, .err 0, .err 0, .err 0, .err 0, .push 3, .err 2, .err 0, .err 0, .err 0, .err 0, .stay 6, .stay 5, .stay 5, .stay 5, .err 0, .err 2, .err 0, .err 0, .err 3],
  [.err 0, .err 1, .err 2, .err 0, .err 0, .err 0, .err 2, .err 4, .err 0, .err 0, .err 0, .err 0, .push 3, .err 2, .err 0, .err 0, .err 0, .err 0, .stay 6, .stay 6, .stay 6, .stay 6, .err 0, .err 2, .err 0, .err 0, .err 3],
  [.stay 7, .stay 7, .stay 7, .stay 7, .stay 7, .stay 7, .stay 7, .stay 7, .stay 7, .stay 7, .stay 7, .stay 7, .stay 7, .stay 7, .stay 7, .err 3, .stay 6, .stay 7, .stay 7, .stay 7, .stay 7, .stay 7, .stay 7, .stay 7, .stay 7, .stay 7, .stay 7]]
def tB2 : List (List LO) := [
  [.err 3, .err 2, .stay 1, .err 4, .err 5, .err 3, .err 8, .err 8, .err 3, .err 6, .err 7, .stay 1, .push 0, .pop, .stay 1, .stay 2, .err 1, .stay 1, .err 0, .stay 0, .stay 0, .stay 0, .err 3, .err 7, .err 4, .stay 1, .err 4],
  [.err 0, .err 1, .err 2, .err 0, .err 0, .err 0, .err 2, .err 4, .err 0, .err 0, .err 0, .err 0, .push 3, .err 2, .err 0, .err 0, .err 0, .err 0, .stay 1, .stay 1, .stay 1, .stay 1, .err 0, .err 2, .err 0, .err 0, .err 3],
  [.stay 2, .stay 2, .stay 2, .stay 2, .stay 2, .stay 2, .stay 2, .stay 2, .stay 2, .stay 2, .stay 2, .stay 2, .stay 2, .stay 2, .stay 2, .err 3, .stay 1, .stay 2, .stay 2, .stay 2, .stay 2, .stay 2, .stay 2, .stay 2, .stay 2, .stay 2, .stay 2],
  [.stay 4, .err 2, .stay 5, .err 4, .err 5, .err 3, .err 8, .err 8, .err 3, .err 6, .err 7, .stay 6, .push 0, .pop, .stay 6, .stay 7, .err 1, .stay 5, .err 0, .stay 3, .stay 3, .stay 3, .err 3, .err 7, .err 4, .stay 6, .err 4],
  [.err 0, .err 1, .err 2, .err 0, .err 0, .err 0, .err 2, .err 4, .err 0, .err 0, .err 0, .err 0, .err 0, .err 2, .err 0, .err 0, .err 0, .err 0, .stay 6, .stay 4, .stay 4, .stay 4, .err 0, .err 2, .err 0, .err 0, .err 3],
  [.err 0, .err 1, .err 2, .err 0, .err 0, .err 0, .err 2, .err 4, .err 0, .err 0, .err 0, .err 0, .push 3, .err 2, .err 0, .err 0, .err 0, .err 0, .stay 6, .stay 5, .stay 5, .stay 5, .err 0, .err 2, .err 0, .err 0, .err 3],
  [.err 0, .err 1, .err 2, .err 0, .err 0, .err 0, .err 2, .err 4, .err 0, .err 0, .err 0, .err 0, .push 3, .err 2, .err 0, .err 0, .err 0, .err 0, .stay 6, .stay 6, .stay 6, .stay 6, .err 0, .err 2, .err 0, .err 0, .err 3],
  [.stay 7, .stay 7, .stay 7, .stay 7, .stay 7, .stay 7, .stay 7, .stay 7, .stay 7, .stay 7, .stay 7, .stay 7, .stay 7, .stay 7, .stay 7, .err 3, .stay 6, .stay 7, .stay 7, .stay 7, .stay 7, .stay 7, .stay 7, .stay 7, .stay 7, .stay 7, .stay 7]]
/-- the kind of the innermost bracket by type: true for a group -/
def kOf (t : Nat) : Bool := Nat.blt t 3
/-- a frame: of the program, of the law -/
def frP1 (bot : Bool) (k : Bool) : D := .tup [.str (cond k [c40] [c99]), .str (cond bot [c99, c104, c97, c105, c110] [c97, c102, c116, c101, c114])]
def lvB : D := (.tup [(.tup [(.int 0), (.str []), (.bl false), (.bl false)])])
def goB : D := (.tup [(.str [c115, c109, c97, c108, c108]), (.str []), (.bl false), (.bl false), (.bl true)])
/-- phase and token by type; want and mode -/
def phB : Nat → D × D
  | 0 => ((.str [c102, c105, c114, c115, c116]), (.tup []))
  | 1 => ((.str [c97, c102, c116, c101, c114]), (.tup []))
  | 2 => ((.str []), (.tup [(.str [c108, c111, c110, c103]), (.str [c39]), (.str [c97, c102, c116, c101, c114]), (.int 0), (.bl false)]))
  | 3 => ((.str [c97, c114, c103]), (.tup []))
  | 4 => ((.str [c115, c101, c97, c108, c101, c100]), (.tup []))
  | 5 => ((.str [c110, c97, c109, c101, c100]), (.tup []))
  | 6 => ((.str [c97, c102, c116, c101, c114]), (.tup []))
  | _ => ((.str []), (.tup [(.str [c108, c111, c110, c103]), (.str [c39]), (.str [c97, c102, c116, c101, c114]), (.int 0), (.bl false)]))
/-- a bracket's state: fs the frames -/
def bP (fs : List D) (t : Nat) : D := .ins 0 [lvB, goB, .tup fs, (phB t).1, (phB t).2]
def nth {α : Type} (d : α) : List α → Nat → α
  | [], _ => d
  | a :: _, 0 => a
  | _ :: r, n + 1 => nth d r n
def len : List Ch → Nat
  | [] => 0
  | _ :: r => len r + 1
end Rp
namespace Rp
open PySem PySem.Spec PyProof.Rows L2
/-- in front of a line: no bracket is open; ks: the brackets below the innermost, the outermost first; t: the innermost, its state -/
inductive LS where
  | n (i : Nat) | b (ks : List Bool) (t : Nat)
  deriving DecidableEq
def frsP : Bool → List Bool → List D
  | _, [] => []
  | bot, k :: r => frP1 bot k :: frsP false r
def stP : LS → D
  | .n i => nth .non nP i
  | .b ks t => bP (frsP true ks ++ [frP1 ks.isEmpty (kOf t)]) t
def rowS : LS → List LO
  | .n i => nth [] tN i
  | .b ks t => nth [] (cond ks.isEmpty tB1 tB2) t
def popS (ks : List Bool) : LS := .b ks.dropLast (cond (ks.getLastD false) 1 6)
def goS : LS → LO → Sum LS Nat
  | _, .err c => .inr c
  | _, .n i => .inl (.n i)
  | _, .b t => .inl (.b [] t)
  | .b ks _, .stay t => .inl (.b ks t)
  | .b ks t, .push t' => .inl (.b (ks ++ [kOf t]) t')
  | .b ks _, .pop => .inl (popS ks)
  | .n _, _ => .inr 0
def stepS (s : LS) (j : Nat) : Sum LS Nat := goS s (nth (.err 0) (rowS s) j)
end Rp
namespace Rp
open PySem PySem.Spec PyProof.Rows L2
def lnT (j : Nat) : List Ch := nth [] lines j
/-- the states over some lines; else the line and the column that is wrong -/
def runS (s : LS) : List Nat → Sum LS (Nat × Nat)
  | [] => .inl s
  | j :: js => match stepS s j with
    | .inr c => .inr (0, c)
    | .inl s' => match runS s' js with
      | .inl t => .inl t
      | .inr p => .inr (p.1 + 1, p.2)
def Lines (js : List Nat) : Prop := ∀ j ∈ js, j < 27
end Rp
namespace Rp
open PySem PySem.Spec PyProof.Rows L2
def optS : Option LS → D
  | some s => stP s
  | none => .non
end Rp
namespace Rp
open PySem PySem.Spec PyProof.Rows L2
def s0 : LS := .n 0
end Rp
namespace Rp
open PySem PySem.Spec PyProof.Rows L2
def leadsS : LS → List Nat → List (Option LS)
  | s, [] => [some s]
  | s, j :: js => some s :: match stepS s j with
    | .inl s' => leadsS s' js
    | .inr _ => List.replicate (js.length + 1) none
def leadsD (js : List Nat) : List D := (leadsS s0 js).map optS
def spotD : Sum LS (Nat × Nat) → D
  | .inl _ => .non
  | .inr p => .tup [.int p.1, .int p.2]
end Rp
namespace Rp
open PySem PySem.Spec PyProof.Rows L2
section
variable {P : Program} {w : World} {K : PySem.W.Frag} {mg : Str → Option Value} {base : Heap} {T : Cl}
def lnV (j : Nat) : V := .str (toS (lnT j))
end
end Rp
namespace Rp
open PySem PySem.Spec PyProof.Rows L2
section
variable {P : Program} {w : World} {K : PySem.W.Frag} {mg : Str → Option Value} {base : Heap} {T : Cl}
/-- a buffer at b with the lines js; its leads stand at ll -/
structure BufS (K : PySem.W.Frag) (T : Cl) (H : Hp) (b ll : Addr) (js : List Nat) : Prop where
  ex : ∃ (dx tp lt : Addr) (sv : V) (wk tot : Int) (lv : List V), H b = some (.ins (cAd K "Buffer") dx [("own_state", .ref tp)]) ∧ SqT K H tp [.ref lt, .ref ll, sv, .int wk, .int tot] ∧ SqT K H lt (js.map lnV) ∧ H ll = some (.lst lv) ∧ RepL K T H lv (leadsD js) ∧ Rep K T H sv (spotD (runS s0 js))
  ok : Lines js
  len : js.length ≤ 10
end
end Rp
namespace Rp
open PySem PySem.Spec PyProof.Rows L2
section
variable {P : Program} {w : World} {K : PySem.W.Frag} {mg : Str → Option Value} {base : Heap} {T : Cl}
def txV (t : List Ch) : V := .str (toS t)
/-- a history at h; its rows stand at lr -/
def HisS (K : PySem.W.Frag) (H : Hp) (h lr : Addr) (kept : List (List Ch)) : Prop := ∃ dx, H h = some (.ins (cAd K "History") dx [("bound", .int 100), ("rows", .ref lr)]) ∧ H lr = some (.lst (kept.map txV))
end
end Rp
namespace PySem
open Sem (wp)
end PySem
namespace L2
open PySem PySem.Spec PyProof.Rows GenW
end L2
namespace L2
open PySem PySem.Spec PyProof.Rows GenW
end L2
namespace Rp
open PySem PySem.Spec PyProof.Rows L2
section
variable {P : Program} {w : World} {K : PySem.W.Frag} {mg : Str → Option Value} {base : Heap} {T : Cl}
/-- a console at c -/
structure ConS (K : PySem.W.Frag) (T : Cl) (H : Hp) (c hi lr b ll : Addr) (js : List Nat) (kept : List (List Ch)) (n : Int) : Prop where
  con : ∃ dx, H c = some (.ins (cAd K "Console") dx [("shelf", .ref hi), ("open_buffer", .ref b), ("finished", .int n)])
  his : HisS K H hi lr kept
  buf : BufS K T H b ll js
  nd : [c, hi, lr, b, ll].Nodup
end
end Rp
namespace Rp
open PySem PySem.Spec PyProof.Rows L2
section
variable {P : Program} {w : World} {K : PySem.W.Frag} {mg : Str → Option Value} {base : Heap} {T : Cl}
theorem ConS.ne {H : Hp} {c hi lr b ll : Addr} {js : List Nat} {kept : List (List Ch)} {n : Int} (hC : ConS K T H c hi lr b ll js kept n) : H c ≠ none ∧ H hi ≠ none ∧ H lr ≠ none ∧ H b ≠ none ∧ H ll ≠ none := by
  obtain ⟨⟨dx, h1⟩, ⟨dxh, g1, g2⟩, hB, hnd⟩ := hC
  obtain ⟨dxb, tp, lt, sv, wk, tot, lv, hb1, _, _, h4, _⟩ := hB.ex
  refine ⟨?_, ?_, ?_, ?_, ?_⟩
  · rw [h1]; exact fun z => nomatch z
  · rw [g1]; exact fun z => nomatch z
  · rw [g2]; exact fun z => nomatch z
  · rw [hb1]; exact fun z => nomatch z
  · rw [h4]; exact fun z => nomatch z
end
end Rp
namespace Rp
open PySem PySem.Spec PyProof.Rows L2
def beqS : List Ch → List Ch → Bool
  | [], [] => true
  | a :: as, b :: bs => Nat.beq a.val b.val && beqS as bs
  | _, _ => false
/-- the list's length fits a line -/
def fit (n : Nat) : Bool := Nat.ble n 16777216
def eqSc : D → D → Option Bool
  | .non, .non => some true
  | .bl a, .bl b => some (a == b)
  | .int a, .int b => some (decide (a = b))
  | .str a, .str b => some (beqS a b)
  | _, _ => none
def zipSc : List D → List D → Option Bool
  | a :: as, b :: bs => match eqSc a b, zipSc as bs with
    | some x, some y => some (x && y)
    | _, _ => none
  | _, _ => some true
def eqD : D → D → Option Bool
  | .tup xs, .tup ys => match zipSc xs ys with
    | some b => some (b && Nat.beq xs.length ys.length)
    | none => none
  | .lst xs, .lst ys => match Nat.beq xs.length ys.length with
    | true => zipSc xs ys
    | false => some false
  | a, b => eqSc a b
def inStrs (x : List Ch) : List D → Option Bool
  | [] => some false
  | .str y :: r => match inStrs x r with
    | some b => some (beqS y x || b)
    | none => none
  | _ :: _ => none
def memCh (c : Ch) : List Ch → Bool
  | [] => false
  | d :: r => Nat.beq d.val c.val || memCh c r
def lookK (k : List Ch) : List (List Ch) → List D → Option D
  | a :: as, d :: ds => match beqS a k with
    | true => some d
    | false => lookK k as ds
  | _, _ => none
def inD : D → D → Option Bool
  | .str [c], .str z => some (memCh c z)
  | .str x, .tup ys => inStrs x ys
  | .str x, .lst ys => inStrs x ys
  | .str x, .dic ks vs => some (lookK x ks vs).isSome
  | _, _ => none
def appOp : Op → D → D → Option D
  | .add, .int a, .int b => some (.int (a + b))
  | .add, .str a, .str b => match fit (a.length + b.length) with
    | true => some (.str (a ++ b))
    | false => none
  | .add, .tup a, .tup b => match fit (a.length + b.length) with
    | true => some (.tup (a ++ b))
    | false => none
  | .add, .lst a, .lst b => match fit (a.length + b.length) with
    | true => some (.lst (a ++ b))
    | false => none
  | .sub, .int a, .int b => some (.int (a - b))
  | .mod, .int a, .int b => if b ≠ 0 then some (.int (a.fmod b)) else none
  | .fdv, .int a, .int b => if b ≠ 0 ∧ b.natAbs < 1073741824 then some (.int (a.fdiv b)) else none
  | .mul, .int a, .int b => if (-(2 ^ 64) < a ∧ a < 2 ^ 64) ∨ (-(2 ^ 64) < b ∧ b < 2 ^ 64) then some (.int (a * b)) else none
  | .eq, a, b => (eqD a b).map .bl
  | .ne, a, b => (eqD a b).map fun c => .bl (!c)
  | .lt, .int a, .int b => some (.bl (decide (a < b)))
  | .le, .int a, .int b => some (.bl (decide (a ≤ b)))
  | .gt, .int a, .int b => some (.bl (decide (b < a)))
  | .ge, .int a, .int b => some (.bl (decide (b ≤ a)))
  | .isin, a, b => (inD a b).map .bl
  | .notin, a, b => (inD a b).map fun c => .bl (!c)
  | _, _, _ => none
def cutD {α : Type} (xs : List α) (lo hi : Option Int) : List α := (xs.drop (HT.sIx xs.length 0 lo)).take (HT.sIx xs.length xs.length hi - HT.sIx xs.length 0 lo)
def sliceD : D → Option Int → Option Int → Option D
  | .tup xs, lo, hi => some (.tup (cutD xs lo hi))
  | .lst xs, lo, hi => some (.lst (cutD xs lo hi))
  | .str xs, lo, hi => match fit xs.length with
    | true => some (.str (cutD xs lo hi))
    | false => none
  | _, _, _ => none
def ixD : D → D → Option D
  | .tup xs, .int i => atI xs i
  | .lst xs, .int i => atI xs i
  | .str xs, .int i => match fit xs.length with
    | true => (atI xs i).map fun c => .str [c]
    | false => none
  | .dic ks vs, .str k => lookK k ks vs
  | _, _ => none
/-- the texts of a list -/
def strsOf : List D → Option (List (List Ch))
  | [] => some []
  | .str s :: r => (strsOf r).map (s :: ·)
  | _ :: _ => none
def blsOf : List D → Option (List Bool)
  | [] => some []
  | .bl s :: r => (blsOf r).map (s :: ·)
  | _ :: _ => none
/-- a library text as signs -/
def chOf : List Nat → Option (List Ch)
  | [] => some []
  | n :: r => if h : n < 1114112 then (chOf r).map (⟨n, h⟩ :: ·) else none
def isPre : List Ch → List Ch → Bool
  | [], _ => true
  | _ :: _, [] => false
  | a :: as, b :: bs => Nat.beq a.val b.val && isPre as bs
def chsOf : List Str → Option (List D)
  | [] => some []
  | s :: r => match chOf s.cps.toList, chsOf r with
    | some a, some b => some (.str a :: b)
    | _, _ => none
def dflD : List (List Ch) → List D → List D
  | k :: ks, v :: vs => .tup [.str k, v] :: dflD ks vs
  | _, _ => []
def hasK (k : List Ch) : List (List Ch) → Bool
  | [] => false
  | a :: as => beqS a k || hasK k as
def putV (k : List Ch) (v : D) : List (List Ch) → List D → List D
  | a :: as, d :: ds => (match beqS a k with
    | true => v
    | false => d) :: putV k v as ds
  | _, _ => []
def putKD (k : List Ch) (v : D) (ks : List (List Ch)) (vs : List D) : List (List Ch) × List D := match hasK k ks with
  | true => (ks, putV k v ks vs)
  | false => (ks ++ [k], vs ++ [v])
def putAllD : List (List Ch × D) → List (List Ch) × List D → List (List Ch) × List D
  | [], a => a
  | (k, v) :: r, (ks, vs) => putAllD r (putKD k v ks vs)
/-- a list of pairs (text, value) -/
def pairsOf : List D → Option (List (List Ch × D))
  | [] => some []
  | .tup [.str k, v] :: r => match pairsOf r with
    | some ps => some ((k, v) :: ps)
    | none => none
  | _ :: _ => none
def app1 : Fn1 → D → Option D
  | .len, .str s => match fit s.length with
    | true => some (.int s.length)
    | false => none
  | .len, .tup xs => some (.int xs.length)
  | .len, .lst xs => some (.int xs.length)
  | .any, .lst xs => (blsOf xs).map fun bs => .bl (bs.any id)
  | .all, .lst xs => (blsOf xs).map fun bs => .bl (bs.all id)
  | .isStr, .str _ => some (.bl true)
  | .isInt, .int _ => some (.bl true)
  | .isBool, .int _ => some (.bl false)
  | .list, .lst xs => some (.lst xs)
  | .list, .tup xs => some (.lst xs)
  | .dict, .lst xs => match pairsOf xs with
    | some ps => match putAllD ps ([], []) with
      | (x, y) => some (.dic x y)
    | none => none
  | _, _ => none
def appM : Mt1 → D → D → Option D
  | .startswith, .str a, .str b => some (.bl (isPre b a))
  | .strip, .str a, .str b => match fit a.length with
    | true => (chOf (Txt.stripChars (toS a) (toS b)).cps.toList).map .str
    | false => none
  | .split, .str a, .str b => match Nat.beq b.length 0, fit (a.length + 2) with
    | false, true => (chsOf (Txt.split (toS a) (toS b))).map .lst
    | _, _ => none
  | .join, .str [], .lst xs => match strsOf xs with
    | some ss => match fit ss.flatten.length with
      | true => some (.str ss.flatten)
      | false => none
    | none => none
  | _, _, _ => none
def look (ρ : Ev) (i : Nat) : Option D := match ρ[i]? with
  | some (some d) => some d
  | _ => none
mutual
/-- no list in it -/
def noL : D → Bool
  | .lst _ => false
  | .tup xs => noLs xs
  | .dic _ vs => noLs vs
  | .ins _ fs => noLs fs
  | _ => true
def noLs : List D → Bool
  | [] => true
  | d :: ds => noL d && noLs ds
end
/-- a comprehension's turns: each item, kept or not, its element -/
def compD (ρ : Ev) (i : Nat) (t : Ev → Option D) (e : Ev → Option D) : List D → Option (List D)
  | [] => some []
  | x :: xs => match t (ρ.set i (some x)) with
    | some (.bl true) => match e (ρ.set i (some x)), compD ρ i t e xs with
      | some y, some ys => match noL y with
        | true => some (y :: ys)
        | false => none
      | _, _ => none
    | some (.bl false) => compD ρ i t e xs
    | _ => none
def itemsD : D → Option (List D)
  | .lst xs => some xs
  | .tup xs => some xs
  | .str s => some (s.map fun c => .str [c])
  | _ => none
def wipeD (ρ : Ev) (i : Nat) : Ev := ρ.set i none
section
variable (G : Gt) (F : Ft)
mutual
def evC : C → Ev → Option D
  | .var i, ρ => look ρ i
  | .cst d, _ => some d
  | .glo j, _ => G.glo j
  | .kget j k, ρ => match evC k ρ with
    | some (.str x) => lookK x (G.tab j).1 (G.tab j).2
    | _ => none
  | .tup es, ρ => match evL es ρ with
    | some ds => match fit ds.length with
      | true => some (.tup ds)
      | false => none
    | none => none
  | .lst es, ρ => match evL es ρ with
    | some ds => match fit ds.length with
      | true => some (.lst ds)
      | false => none
    | none => none
  | .bin o a b, ρ => match evC a ρ with
    | some x => match evC b ρ with
      | some y => appOp o x y
      | none => none
    | none => none
  | .cmp o a b, ρ => match evC a ρ with
    | some x => match evC b ρ with
      | some y => appOp o x y
      | none => none
    | none => none
  | .isN a, ρ => match evC a ρ with
    | some .non => some (.bl true)
    | some _ => some (.bl false)
    | none => none
  | .notN a, ρ => match evC a ρ with
    | some .non => some (.bl false)
    | some _ => some (.bl true)
    | none => none
  | .chain o1 o2 a b c, ρ => match evC a ρ with
    | some x => match evC b ρ with
      | some y => match appOp o1 x y with
        | some (.bl true) => match evC c ρ with
          | some z => appOp o2 y z
          | none => none
        | some (.bl false) => some (.bl false)
        | _ => none
      | none => none
    | none => none
  | .and a b, ρ => match evC a ρ with
    | some (.bl true) => evC b ρ
    | some (.bl false) => some (.bl false)
    | _ => none
  | .or a b, ρ => match evC a ρ with
    | some (.bl true) => some (.bl true)
    | some (.bl false) => evC b ρ
    | _ => none
  | .not a, ρ => match evC a ρ with
    | some (.bl b) => some (.bl (!b))
    | _ => none
  | .ite t a b, ρ => match evC t ρ with
    | some (.bl true) => evC a ρ
    | some (.bl false) => evC b ρ
    | _ => none
  | .attr a i, ρ => match evC a ρ with
    | some (.ins 0 fs) => fs[i]?
    | _ => none
  | .ix a b, ρ => match evC a ρ with
    | some x => match evC b ρ with
      | some y => ixD x y
      | none => none
    | none => none
  | .slice a lo hi, ρ => match evC a ρ with
    | some x => match evO lo ρ with
      | some l => match evO hi ρ with
        | some h => sliceD x l h
        | none => none
      | none => none
    | none => none
  | .neg a, ρ => match evC a ρ with
    | some (.int i) => some (.int (-i))
    | _ => none
  | .call f es, ρ => match evL es ρ with
    | some ds => F f ds
    | none => none
  | .meth f o es, ρ => match evC o ρ with
    | some (.ins 0 fs) => match evL es ρ with
      | some ds => F f (.ins 0 fs :: ds)
      | none => none
    | _ => none
  | .new es, ρ => match evL es ρ with
    | some ds => F 0 ds
    | none => none
  | .f1 f a, ρ => match evC a ρ with
    | some x => app1 f x
    | none => none
  | .m1 m a b, ρ => match evC a ρ with
    | some x => match evC b ρ with
      | some y => appM m x y
      | none => none
    | none => none
  | .dget a k d, ρ => match evC a ρ with
    | some (.dic ks vs) => match evC k ρ with
      | some (.str x) => match evC d ρ with
        | some z => match lookK x ks vs with
          | some r => some r
          | none => some z
        | none => none
      | _ => none
    | _ => none
  | .cdic ks vs, _ => some (.dic ks (vs.map .str))
  | .items a, ρ => match evC a ρ with
    | some (.dic ks vs) => match fit ks.length with
      | true => some (.lst (dflD ks vs))
      | false => none
    | _ => none
  | .dstar a ks vs, ρ => match evC a ρ with
    | some (.dic ks0 vs0) => match fit (ks0.length + ks.length), strsOf vs0, putAllD (ks.zip (vs.map .str)) (ks0, vs0) with
      | true, some _, (x, y) => some (.dic x y)
      | _, _, _ => none
    | _ => none
  | .lcomp i it t e, ρ => match evC it ρ with
    | some x => match itemsD x with
      | some xs => match fit xs.length with
        | true => (compD (wipeD ρ i) i (fun r => evT t r) (fun r => evC e r) xs).map .lst
        | false => none
      | none => none
    | none => none
def evL : CL → Ev → Option (List D)
  | .nil, _ => some []
  | .cons c r, ρ => match evC c ρ with
    | some d => match evL r ρ with
      | some ds => some (d :: ds)
      | none => none
    | none => none
  | .star c r, ρ => match evC c ρ with
    | some (.tup xs) => match evL r ρ with
      | some ds => some (xs ++ ds)
      | none => none
    | some (.lst xs) => match evL r ρ with
      | some ds => some (xs ++ ds)
      | none => none
    | _ => none
/-- a slice's part -/
def evO : CO → Ev → Option (Option Int)
  | .none, _ => some none
  | .some c, ρ => match evC c ρ with
    | some (.int i) => some (some i)
    | _ => none
/-- a comprehension's test -/
def evT : CO → Ev → Option D
  | .none, _ => some (.bl true)
  | .some c, ρ => evC c ρ
end
end
def loopD (t : Ev → Option D) (b : Ev → Option Out) : Nat → Ev → Option Out
  | 0, _ => none
  | n + 1, ρ => match t ρ with
    | some (.bl true) => match b ρ with
      | some (.inl ρ') => loopD t b n ρ'
      | some (.inr d) => some (.inr d)
      | none => none
    | some (.bl false) => some (.inl ρ)
    | _ => none
def setsD : List Nat → List D → Ev → Option Ev
  | [], [], ρ => some ρ
  | i :: is, d :: ds, ρ => setsD is ds (ρ.set i (some d))
  | _, _, _ => none
def anyS (x : List Ch) : List (List Ch) → Bool
  | [] => false
  | p :: ps => beqS x p || anyS x ps
section
variable (G : Gt) (F : Ft)
mutual
def evS : S → Ev → Option Out
  | .set i e, ρ => match evC G F e ρ with
    | some d => some (.inl (ρ.set i (some d)))
    | none => none
  | .sets is e, ρ => match evC G F e ρ with
    | some (.tup ds) => match setsD is ds ρ with
      | some ρ' => some (.inl ρ')
      | none => none
    | _ => none
  | .par i j a b, ρ => match evC G F a ρ with
    | some x => match evC G F b ρ with
      | some y => some (.inl ((ρ.set i (some x)).set j (some y)))
      | none => none
    | none => none
  | .iff t a b, ρ => match evC G F t ρ with
    | some (.bl true) => evSL a ρ
    | some (.bl false) => evSL b ρ
    | _ => none
  | .ret e, ρ => match evC G F e ρ with
    | some d => some (.inr d)
    | none => none
  | .whil t b, ρ => loopD (fun r => evC G F t r) (fun r => evSL b r) 1000000 ρ
  | .mtch e cs, ρ => match evC G F e ρ with
    | some (.str x) => evM x cs ρ
    | _ => none
  | .pass, ρ => some (.inl ρ)
  | .never, _ => none
  | .forR i n b, ρ => match evC G F n ρ with
    | some (.int k) => if 0 ≤ k ∧ k < 4611686018427387904 then forR i (fun r => evSL b r) k.toNat 0 ρ else none
    | _ => none
  | .forE i j e b, ρ => match evC G F e ρ with
    | some (.str x) => forE i j (fun r => evSL b r) x 0 ρ
    | _ => none
def evSL : SL → Ev → Option Out
  | .nil, ρ => some (.inl ρ)
  | .cons s r, ρ => match evS s ρ with
    | some (.inl ρ') => evSL r ρ'
    | some (.inr d) => some (.inr d)
    | none => none
def evM (x : List Ch) : ML → Ev → Option Out
  | .nil, ρ => some (.inl ρ)
  | .cons ps b r, ρ => match anyS x ps with
    | true => evSL b ρ
    | false => evM x r ρ
end
end
def bindF (f : Fn) (ds : List D) : Option (List D) := match f.star with
  | true => match Nat.ble f.n ds.length with
    | true => match fit ds.length with
      | true => some (ds.take f.n ++ [.tup (ds.drop f.n)])
      | false => none
    | false => none
  | false => match Nat.ble ds.length f.n, Nat.ble f.n (ds.length + f.dfl.length) with
    | true, true => some (ds ++ f.dfl.drop (ds.length + f.dfl.length - f.n))
    | _, _ => none
def startD (n : Nat) (vs : List D) : Ev := vs.map some ++ List.replicate (n - vs.length) none
def outD : Option Out → Option D
  | some (.inl _) => some .non
  | some (.inr d) => some d
  | none => none
def runF (G : Gt) (F : Ft) (f : Fn) (ds : List D) : Option D := match bindF f ds with
  | some vs => outD (evSL G F f.body (startD f.slots vs))
  | none => none
/-- the making of a State: id 0 -/
def mkSt (dfl : List D) (ds : List D) : Option D := match Nat.ble ds.length 5 with
  | true => some (.ins 0 (ds ++ dfl.drop ds.length))
  | false => none
/-- the defs' results, calls nested at most m deep -/
def Fk (G : Gt) (dfl : List D) (prog : Nat → Option Fn) : Nat → Ft
  | 0, _, _ => none
  | m + 1, f, ds => match f with
    | 0 => mkSt dfl ds
    | f + 1 => match prog (f + 1) with
      | some g => runF G (Fk G dfl prog m) g ds
      | none => none
end Rp
namespace Rp
open PySem PySem.Spec PyProof.Rows L2
def ixOf (x : Str) : List Str → Option Nat
  | [] => none
  | y :: r => if y = x then some 0 else (ixOf x r).map (· + 1)
def opOf : Operator → Option Op
  | .Add => some .add
  | .Sub => some .sub
  | .Mult => some .mul
  | .Mod => some .mod
  | .FloorDiv => some .fdv
  | _ => none
def cmpOf : CmpOp → Option Op
  | .Eq => some .eq
  | .NotEq => some .ne
  | .Lt => some .lt
  | .LtE => some .le
  | .Gt => some .gt
  | .GtE => some .ge
  | .In => some .isin
  | .NotIn => some .notin
  | _ => none
def noneC : Expr → Bool
  | .Constant .none _ _ => true
  | _ => false
def plainE : Expr → Bool
  | .Starred _ _ => false
  | .Slice _ _ _ _ => false
  | .Set _ _ _ => false
  | .ListComp _ _ _ _ => false
  | .SetComp _ _ _ _ => false
  | .DictComp _ _ _ _ _ => false
  | .Call (.Name _ _) [] [] _ => true
  | _ => true
/-- an expression that a call's argument, an operand may be -/
def argE : Expr → Bool
  | .Starred _ _ => false
  | .Slice _ _ _ _ => false
  | .Set _ _ _ => false
  | _ => true
def recvE (x : Expr) : Bool := match x with
  | .Call (.Name n _) [] [] _ => !(decide (n = "super"))
  | _ => true
def visB (sc : Scope) (x : Str) : Bool := match sc.names.lookup x with
  | some .local => true
  | some .cell => true
  | some .free => true
  | _ => false
def locB (sc : Scope) (x : Str) : Bool := match sc.names.lookup x with
  | some .local => true
  | some .cell => true
  | _ => false
def glB (sc : Scope) (x : Str) : Bool := match sc.names.lookup x with
  | some .globalImplicit => true
  | _ => false
def okName (x : Str) : Bool := !(x == ("__debug__" : Str)) && !(x == ("__classdict__" : Str))
def isF1 (x : Str) : Option Fn1 :=
  if x = "len" then some .len else if x = "any" then some .any else if x = "all" then some .all else if x = "list" then some .list else if x = "dict" then some .dict else none
def isM1 (x : Str) : Option Mt1 :=
  if x = "startswith" then some .startswith else if x = "strip" then some .strip else if x = "split" then some .split else if x = "join" then some .join else none
def strC : Expr → Option (List Ch)
  | .Constant (.str s) _ _ => chOf s.cps.toList
  | _ => none
def strCs : List Expr → Option (List (List Ch))
  | [] => some []
  | e :: r => match strC e, strCs r with
    | some a, some b => some (a :: b)
    | _, _ => none
def strKs : List (Option Expr) → Option (List (List Ch))
  | [] => some []
  | some e :: r => match strC e, strKs r with
    | some a, some b => some (a :: b)
    | _, _ => none
  | none :: _ => none
section
variable (M : Nm)
/-- the slot of a local name -/
def slotB (N : List Str) (sc : Scope) (x : Str) : Option Nat := if locB sc x = true then ixOf x N else none
/-- x[..], not a slice -/
def subC (sc : Scope) (a : Expr) (ok : Bool) (ca cb : Option C) : Option C := match ok, cb with
  | true, some y => match a with
    | .Name x _ => match okName x && glB sc x, M.tid.lookup x with
      | true, some j => some (.kget j y)
      | _, _ => ca.map fun z => .ix z y
    | _ => ca.map fun z => .ix z y
  | _, _ => none
def isiC (t : Str) (ca : Option C) : Option C := if t = "str" then ca.map (.f1 .isStr) else if t = "int" then ca.map (.f1 .isInt) else if t = "bool" then ca.map (.f1 .isBool) else none
/-- list(d.items()), a built-in of one argument -/
def oneC (x : Str) (f : Fn1) (a : Expr) (ce : Expr → Option C) : Option C := match a, decide (x = "list") with
  | .Call (.Attribute o m apos) [] [] cpos2, true => if m = "items" ∧ apos.endLine = cpos2.line ∧ recvE o = true then (ce o).map .items else none
  | _, _ => (ce a).map (.f1 f)
def callN (sc : Scope) (x : Str) (es : List Expr) (ce : Expr → Option C) (cl : Option CL) : Option C := if okName x = true ∧ glB sc x = true ∧ es.all argE = true then
    (match M.fid.lookup x with
    | some f => cl.map (.call f)
    | none => if x = M.cls then cl.map .new else match es with
      | [a] => match isF1 x with
        | some f => oneC x f a ce
        | none => none
      | [a, .Name t _] => if x = "isinstance" ∧ glB sc t = true ∧ okName t = true then isiC t (ce a) else none
      | _ => none)
  else none
def callA (o : Expr) (m : Str) (same : Bool) (es : List Expr) (ce : Expr → Option C) (cl : Option CL) : Option C := if recvE o = true ∧ es.all argE = true ∧ same = true then
    (match M.mid.lookup m with
    | some f => match decide (es.length < 30), ce o, cl with
      | true, some x, some ds => some (.meth f x ds)
      | _, _, _ => none
    | none => match es with
      | [a] => match ce o, ce a with
        | some x, some y => if m = "get" then some (.dget x y (.cst .non)) else (isM1 m).map fun f => .m1 f x y
        | _, _ => none
      | [a, b] => if m = "get" then (match ce o, ce a, ce b with
        | some x, some y, some z => some (.dget x y z)
        | _, _, _ => none) else none
      | _ => none)
  else none
def lcC (N : List Str) (sc scope : Scope) (y : Str) (iter : Expr) (ifs : List Expr) (cit ce : Option C) (ct : Expr → Option C) : Option C := match ixOf y N, argE iter, cit with
  | some i, true, some it => if blkC N sc scope [(y, i)] = true ∧ locB scope y = true then
      (match ce with
      | some e => match ifs with
        | [] => some (.lcomp i it .none e)
        | [t] => match ct t with
          | some t => some (.lcomp i it (.some t) e)
          | none => none
        | _ => none
      | none => none)
    else none
  | _, _, _ => none
mutual
def cE : Nat → List Str → Scope → Expr → Option C
  | 0, _, _, _ => none
  | n + 1, N, sc, e => match e with
    | .Name x _ => if okName x = true then (if visB sc x = true then (ixOf x N).map .var else if glB sc x = true then (M.gid.lookup x).map .glo else none) else none
    | .Constant c _ _ => match c with
      | .none => some (.cst .non)
      | .bool b => some (.cst (.bl b))
      | .int i => some (.cst (.int i))
      | .str s => (chOf s.cps.toList).map fun l => .cst (.str l)
      | _ => none
    | .Tuple es _ _ => (cL n N sc es).map .tup
    | .List es _ => (cL n N sc es).map .lst
    | .BinOp a op b _ => match opOf op, cE n N sc a, cE n N sc b with
      | some o, some x, some y => some (.bin o x y)
      | _, _, _ => none
    | .UnaryOp op a _ => match op, cE n N sc a with
      | .Not, some x => some (.not x)
      | .USub, some x => some (.neg x)
      | _, _ => none
    | .Compare a [op] [b] _ => match op, noneC b, cE n N sc a with
      | .Is, true, some x => some (.isN x)
      | .IsNot, true, some x => some (.notN x)
      | _, _, some x => match cmpOf op, argE b, cE n N sc b with
        | some o, true, some y => some (.cmp o x y)
        | _, _, _ => none
      | _, _, _ => none
    | .Compare a [.LtE, .Lt] [b, c] _ => match argE b && argE c, cE n N sc a, cE n N sc b, cE n N sc c with
      | true, some x, some y, some z => some (.chain .le .lt x y z)
      | _, _, _, _ => none
    | .BoolOp op vs pos => match vs with
      | [] => none
      | [a] => cE n N sc a
      | a :: b :: r => match cE n N sc a, cE n N sc (.BoolOp op (b :: r) pos) with
        | some x, some y => match op with
          | .And => some (.and x y)
          | .Or => some (.or x y)
        | _, _ => none
    | .IfExp t a b _ => match cE n N sc t, cE n N sc a, cE n N sc b with
      | some x, some y, some z => some (.ite x y z)
      | _, _, _ => none
    | .Attribute o f _ => match recvE o, ixOf f M.fld, cE n N sc o with
      | true, some i, some x => some (.attr x i)
      | _, _, _ => none
    | .Subscript a (.Slice lo hi none _) _ => match cE n N sc a, cO n N sc lo, cO n N sc hi with
      | some x, some l, some h => some (.slice x l h)
      | _, _, _ => none
    | .Subscript a b _ => subC M sc a (argE b) (cE n N sc a) (cE n N sc b)
    | .Dict ks vs _ => match ks with
      | none :: kr => match vs with
        | d :: vr => match cE n N sc d, strKs kr, strCs vr with
          | some x, some a, some b => if a.length = b.length ∧ a.length ≤ 10 ∧ a.length ≠ 0 ∧ a.Nodup then some (.dstar x a b) else none
          | _, _, _ => none
        | [] => none
      | _ => match strKs ks, strCs vs with
        | some a, some b => if a.length = b.length ∧ a.length ≤ 15 ∧ a.length ≠ 0 ∧ a.Nodup then some (.cdic a b) else none
        | _, _ => none
    | .Call (.Name x _) es [] _ => callN M sc x es (cE n N sc) (cL n N sc es)
    | .Call (.Attribute o m apos) es [] cpos => callA M o m (decide (apos.endLine = cpos.line)) es (cE n N sc) (cL n N sc es)
    | .ListComp elt [⟨.Name y _, iter, ifs, 0⟩] scope _ => lcC N sc scope y iter ifs (cE n N sc iter) (cE n N (relS scope sc) elt) (cE n N (relS scope sc))
    | _ => none
def cL : Nat → List Str → Scope → List Expr → Option CL
  | 0, _, _, _ => none
  | n + 1, N, sc, es => match es with
    | [] => some .nil
    | .Starred e _ :: r => match cE n N sc e, cL n N sc r with
      | some x, some y => some (.star x y)
      | _, _ => none
    | e :: r => match argE e, cE n N sc e, cL n N sc r with
      | true, some x, some y => some (.cons x y)
      | _, _, _ => none
def cO : Nat → List Str → Scope → Option Expr → Option CO
  | 0, _, _, _ => none
  | n + 1, N, sc, e => match e with
    | none => some .none
    | some e => (cE n N sc e).map .some
end
/-- a statement's value that isn't swapped into its target -/
def slotsOf (N : List Str) (sc : Scope) : List Expr → Option (List Nat)
  | [] => some []
  | .Name x _ :: r => match slotB N sc x, slotsOf N sc r with
    | some i, some is => some (i :: is)
    | _, _ => none
  | _ :: _ => none
def isTup : Expr → Bool
  | .Tuple _ _ _ => true
  | _ => false
/-- a match's pattern: texts -/
def patB : Pattern → Option (List (List Ch))
  | .MatchValue e _ => match strC e with
    | some x => some [x]
    | none => none
  | .MatchOr ps _ => patBs ps
  | _ => none
where patBs : List Pattern → Option (List (List Ch))
  | [] => some []
  | .MatchValue e _ :: r => match strC e, patBs r with
    | some x, some y => some (x :: y)
    | _, _ => none
  | _ :: _ => none
def parOk (sc : Scope) (x y : Str) (px py : Pos) (a b : Expr) : Bool :=
  decide (sc.names.lookup x = some .local) && decide (sc.names.lookup y = some .local) && (px.line == py.line) && !(decide (x = y)) && argE a && argE b &&
    !([a, b].all (foldedForSure 8)) && !([a, b].all (constantsAlone 8))
mutual
def cS : Nat → List Str → Scope → Stmt → Option S
  | 0, _, _, _ => none
  | n + 1, N, sc, s => match s with
    | .Assign [.Name x px] (.ListComp elt gs scope lpos) _ => match ixOf x N, decide (sc.names.lookup x = some .local) && (px.line == lpos.line) && !(scope.names.any fun (n, k) => n == x && (k == .local || k == .cell)), cE M n N sc (.ListComp elt gs scope lpos) with
      | some i, true, some c => some (.set i c)
      | _, _, _ => none
    | .Assign [.Name x _] e _ => match slotB N sc x, plainE e, cE M n N sc e with
      | some i, true, some c => some (.set i c)
      | _, _, _ => none
    | .Assign [.Tuple ts _ _] e _ => match e with
      | .Tuple es _ _ => match ts, es with
        | [.Name x px, .Name y py], [a, b] => match ixOf x N, ixOf y N, parOk sc x y px py a b, cE M n N sc a, cE M n N sc b with
          | some i, some j, true, some u, some v => some (.par i j u v)
          | _, _, _, _, _ => match slotB N sc x, slotB N sc y, [a, b].all (foldedForSure 8), cE M n N sc e with
            | some i, some j, true, some u => some (.sets [i, j] u)
            | _, _, _, _ => none
        | _, _ => none
      | _ => match slotsOf N sc ts, plainE e && !isTup e, cE M n N sc e with
        | some is, true, some c => some (.sets is c)
        | _, _, _ => none
    | .If t a b _ => match cE M n N sc t, cSL n N sc a, cSL n N sc b with
      | some x, some y, some z => some (.iff x y z)
      | _, _, _ => none
    | .Return (some e) _ => match argE e, cE M n N sc e with
      | true, some c => some (.ret c)
      | _, _ => none
    | .While t b [] _ => match cE M n N sc t, cSL n N sc b with
      | some x, some y => some (.whil x y)
      | _, _ => none
    | .Match e cs _ => match cE M n N sc e, cM n N sc cs with
      | some x, some y => some (.mtch x y)
      | _, _ => none
    | .Pass _ => some .pass
    | .For (.Name x _) (.Call (.Name f _) [e] [] _) b [] _ => match slotB N sc x, decide (f = "range") && glB sc f && argE e, cE M n N sc e, cSL n N sc b with
      | some i, true, some c, some d => some (.forR i c d)
      | _, _, _, _ => none
    | .For (.Tuple [.Name x _, .Name y _] _ _) (.Call (.Name f _) [e] [] _) b [] _ => match slotB N sc x, slotB N sc y, decide (f = "enumerate") && glB sc f && argE e, cE M n N sc e, cSL n N sc b with
      | some i, some j, true, some c, some d => some (.forE i j c d)
      | _, _, _, _, _ => none
    | .Raise _ _ _ => some .never
    | _ => none
def cSL : Nat → List Str → Scope → List Stmt → Option SL
  | 0, _, _, _ => none
  | n + 1, N, sc, ss => match ss with
    | [] => some .nil
    | s :: r => match cS n N sc s, cSL n N sc r with
      | some x, some y => some (.cons x y)
      | _, _ => none
def cM : Nat → List Str → Scope → List MatchCase → Option ML
  | 0, _, _, _ => none
  | n + 1, N, sc, cs => match cs with
    | [] => some .nil
    | ⟨p, none, b⟩ :: r => match patB p, cSL n N sc b, cM n N sc r with
      | some x, some y, some z => some (.cons x y z)
      | _, _, _ => none
    | _ :: _ => none
end
end
end Rp
namespace Rp
open PySem PySem.Spec PyProof.Rows L2
def N_consists_of : List Str := ["thing", "signs", "sign"]
def N_is_line : List Str := ["thing"]
def N_is_text : List Str := ["thing"]
def N_with_clauses : List Str := ["levels", "clauses", "indent", "old", "can_return", "can_break"]
def N_after_line : List Str := ["state", "word", "clauses", "can_return", "can_break", "is_last", "need"]
def N_after_empty_line : List Str := ["state", "word", "width", "need", "level"]
def N_line_begun : List Str := ["state", "word", "width", "need", "levels", "indent", "clauses", "can_return", "can_break", "phase"]
def N_small_begun : List Str := ["state", "indent", "clauses", "can_return", "can_break"]
def N_header_begun : List Str := ["state", "word", "indent", "clauses", "can_return", "can_break", "follow", "rights", "phases", "phase"]
def N_after_word : List Str := ["state", "word", "phase", "behind"]
def N_may_assign : List Str := ["state", "phase"]
def N_after_short : List Str := ["state", "sign", "word", "quote", "behind", "is_taken"]
def N_after_long : List Str := ["state", "sign", "word", "quote", "behind", "many", "is_taken"]
def N_after_template : List Str := ["state", "sign", "word", "behind", "is_taken"]
def N_after_operator : List Str := ["state", "sign", "word"]
def N_after_word_sign : List Str := ["state", "sign", "word", "behind"]
def N_after_number : List Str := ["state", "sign"]
def N_after_quote : List Str := ["state", "sign", "word", "quote", "behind"]
def N_after_token : List Str := ["state", "sign"]
def N_after_operand_sign : List Str := ["state", "sign", "phase", "behind"]
def N_after_comma : List Str := ["state"]
def N_after_colon : List Str := ["state", "word", "clauses", "can_return", "can_break"]
def N_after_done_sign : List Str := ["state", "sign", "phase", "kind"]
def N_after_code_sign : List Str := ["state", "sign", "phase"]
def N_after_start_sign : List Str := ["state", "sign", "word", "width", "need", "begun"]
def N_after_plain : List Str := ["state", "sign"]
def N_next_state : List Str := ["state", "sign"]
def N_state_behind : List Str := ["state", "text", "place", "sign", "behind"]
def N_state_of : List Str := ["text"]
def N_is_entry_state : List Str := ["state"]
def N_state_verdict : List Str := ["state"]
def N_is_index : List Str := ["thing", "limit"]
def N_is_entry : List Str := ["text", "state"]
def N_is_count : List Str := ["thing", "least"]
def N__law_mixed : List Str := ["_law_cell", "_law_k", "_law_mixed_here"]
def N__law_primary_end : List Str := ["_law_want", "_law_token"]
def N__law_operand : List Str := ["_law_state", "_law_token", "_law_levels", "_law_goal", "_law_stack", "_law_want", "_law_inner"]
def N__law_end_of : List Str := ["_law_inner", "_law_some"]
def N__law_behind : List Str := ["_law_state", "_law_token", "_law_levels", "_law_goal", "_law_stack", "_law_want", "_law_inner", "_law_chain", "_law_is_fine", "_law_later", "_law_again"]
def N__law_ended : List Str := ["_law_state", "_law_token", "_law_levels", "_law_goal", "_law_stack", "_law_want"]
def N__law_begun : List Str := ["_law_state", "_law_token", "_law_levels", "_law_goal", "_law_stack", "_law_want", "_law_rights", "_law_inner", "_law_later", "_law_clauses", "_law_one"]
def N__law_step : List Str := ["_law_state", "_law_token", "_law_levels", "_law_goal", "_law_stack", "_law_want", "_law_some"]
def N__law_line_end : List Str := ["_law_state", "_law_levels", "_law_goal", "_law_stack", "_law_want", "_law_need"]
def N__law_is_wordy : List Str := ["_law_sign"]
def N__law_keywords : List Str := ["_law_some"]
def N__law_can : List Str := ["_law_state", "_law_word", "_law_some", "_law_one"]
def N__law_line_begun : List Str := ["_law_state", "_law_levels", "_law_word", "_law_width", "_law_need", "_law_found", "_law_indent", "_law_later", "_law_want"]
def N__law_front : List Str := ["_law_state", "_law_sign", "_law_levels", "_law_word", "_law_width", "_law_need", "_law_begun_here", "_law_one"]
def N__law_code : List Str := ["_law_state", "_law_sign", "_law_levels", "_law_goal", "_law_stack", "_law_want", "_law_ended_here", "_law_mode", "_law_is_done"]
def N__law_in_text : List Str := ["_law_state", "_law_mode", "_law_sign", "_law_word", "_law_quote", "_law_run_here", "_law_taken", "_law_levels", "_law_goal", "_law_stack", "_law_want"]
def N__law_after : List Str := ["_law_state", "_law_mode", "_law_sign"]
def N__law_after_start : List Str := ["_law_state", "_law_mode", "_law_sign"]
def N__law_run : List Str := ["_law_signs", "_law_state", "_law_mode", "_law_k", "_law_found"]
def N__law_judged : List Str := ["_law_signs", "_law_state", "_law_mode", "_law_at"]
def N__law_settled : List Str := ["_law_waiting", "_law_kept", "_law_signs", "_law_verdict", "_law_one"]
def N_parts : List Str := ["self"]
def N_in_phase : List Str := ["self", "phase", "token"]
def N_with_token : List Str := ["self", "token"]
def N_opened : List Str := ["self", "kind", "behind", "phase"]
def N_reframed : List Str := ["self", "kind", "phase", "behind"]
def N_closed : List Str := ["self", "kind", "behind", "token"]
def N_innermost : List Str := ["self"]
def N_is_prefix : List Str := ["self", "word", "allowed", "other"]
end Rp
namespace Rp
open PySem PySem.Spec PyProof.Rows L2
abbrev FF (m : Nat) : Ft := Fk gt sdfl prog m
end Rp
namespace Rp
open PySem PySem.Spec PyProof.Rows L2
theorem c_consists_of : cSL nm 100 N_consists_of (defScope s_consists_of) (defBody s_consists_of) = some b_consists_of := by kernel_rfl
theorem c_is_line : cSL nm 100 N_is_line (defScope s_is_line) (defBody s_is_line) = some b_is_line := by kernel_rfl
theorem c_is_text : cSL nm 100 N_is_text (defScope s_is_text) (defBody s_is_text) = some b_is_text := by kernel_rfl
theorem c_with_clauses : cSL nm 100 N_with_clauses (defScope s_with_clauses) (defBody s_with_clauses) = some b_with_clauses := by kernel_rfl
theorem c_after_line : cSL nm 100 N_after_line (defScope s_after_line) (defBody s_after_line) = some b_after_line := by kernel_rfl
theorem c_after_empty_line : cSL nm 100 N_after_empty_line (defScope s_after_empty_line) (defBody s_after_empty_line) = some b_after_empty_line := by kernel_rfl
theorem c_line_begun : cSL nm 100 N_line_begun (defScope s_line_begun) (defBody s_line_begun) = some b_line_begun := by kernel_rfl
theorem c_small_begun : cSL nm 100 N_small_begun (defScope s_small_begun) (defBody s_small_begun) = some b_small_begun := by kernel_rfl
theorem c_header_begun : cSL nm 100 N_header_begun (defScope s_header_begun) (defBody s_header_begun) = some b_header_begun := by kernel_rfl
theorem c_after_word : cSL nm 100 N_after_word (defScope s_after_word) (defBody s_after_word) = some b_after_word := by kernel_rfl
theorem c_may_assign : cSL nm 100 N_may_assign (defScope s_may_assign) (defBody s_may_assign) = some b_may_assign := by kernel_rfl
theorem c_after_short : cSL nm 100 N_after_short (defScope s_after_short) (defBody s_after_short) = some b_after_short := by kernel_rfl
theorem c_after_long : cSL nm 100 N_after_long (defScope s_after_long) (defBody s_after_long) = some b_after_long := by kernel_rfl
theorem c_after_template : cSL nm 100 N_after_template (defScope s_after_template) (defBody s_after_template) = some b_after_template := by kernel_rfl
theorem c_after_operator : cSL nm 100 N_after_operator (defScope s_after_operator) (defBody s_after_operator) = some b_after_operator := by kernel_rfl
theorem c_after_word_sign : cSL nm 100 N_after_word_sign (defScope s_after_word_sign) (defBody s_after_word_sign) = some b_after_word_sign := by kernel_rfl
theorem c_after_number : cSL nm 100 N_after_number (defScope s_after_number) (defBody s_after_number) = some b_after_number := by kernel_rfl
theorem c_after_quote : cSL nm 100 N_after_quote (defScope s_after_quote) (defBody s_after_quote) = some b_after_quote := by kernel_rfl
theorem c_after_token : cSL nm 100 N_after_token (defScope s_after_token) (defBody s_after_token) = some b_after_token := by kernel_rfl
theorem c_after_operand_sign : cSL nm 100 N_after_operand_sign (defScope s_after_operand_sign) (defBody s_after_operand_sign) = some b_after_operand_sign := by kernel_rfl
theorem c_after_comma : cSL nm 100 N_after_comma (defScope s_after_comma) (defBody s_after_comma) = some b_after_comma := by kernel_rfl
theorem c_after_colon : cSL nm 100 N_after_colon (defScope s_after_colon) (defBody s_after_colon) = some b_after_colon := by kernel_rfl
theorem c_after_done_sign : cSL nm 100 N_after_done_sign (defScope s_after_done_sign) (defBody s_after_done_sign) = some b_after_done_sign := by kernel_rfl
theorem c_after_code_sign : cSL nm 100 N_after_code_sign (defScope s_after_code_sign) (defBody s_after_code_sign) = some b_after_code_sign := by kernel_rfl
theorem c_after_start_sign : cSL nm 100 N_after_start_sign (defScope s_after_start_sign) (defBody s_after_start_sign) = some b_after_start_sign := by kernel_rfl
theorem c_after_plain : cSL nm 100 N_after_plain (defScope s_after_plain) (defBody s_after_plain) = some b_after_plain := by kernel_rfl
theorem c_next_state : cSL nm 100 N_next_state (defScope s_next_state) (defBody s_next_state) = some b_next_state := by kernel_rfl
theorem c_state_behind : cSL nm 100 N_state_behind (defScope s_state_behind) (defBody s_state_behind) = some b_state_behind := by kernel_rfl
theorem c_state_of : cSL nm 100 N_state_of (defScope s_state_of) (defBody s_state_of) = some b_state_of := by kernel_rfl
theorem c_is_entry_state : cSL nm 100 N_is_entry_state (defScope s_is_entry_state) (defBody s_is_entry_state) = some b_is_entry_state := by kernel_rfl
theorem c_state_verdict : cSL nm 100 N_state_verdict (defScope s_state_verdict) (defBody s_state_verdict) = some b_state_verdict := by kernel_rfl
theorem c_is_index : cSL nm 100 N_is_index (defScope s_is_index) (defBody s_is_index) = some b_is_index := by kernel_rfl
theorem c_is_entry : cSL nm 100 N_is_entry (defScope s_is_entry) (defBody s_is_entry) = some b_is_entry := by kernel_rfl
theorem c_is_count : cSL nm 100 N_is_count (defScope s_is_count) (defBody s_is_count) = some b_is_count := by kernel_rfl
theorem c__law_mixed : cSL nm 100 N__law_mixed (defScope s__law_mixed) (defBody s__law_mixed) = some b__law_mixed := by kernel_rfl
theorem c__law_primary_end : cSL nm 100 N__law_primary_end (defScope s__law_primary_end) (defBody s__law_primary_end) = some b__law_primary_end := by kernel_rfl
theorem c__law_operand : cSL nm 100 N__law_operand (defScope s__law_operand) (defBody s__law_operand) = some b__law_operand := by kernel_rfl
theorem c__law_end_of : cSL nm 100 N__law_end_of (defScope s__law_end_of) (defBody s__law_end_of) = some b__law_end_of := by kernel_rfl
theorem c__law_behind : cSL nm 100 N__law_behind (defScope s__law_behind) (defBody s__law_behind) = some b__law_behind := by kernel_rfl
theorem c__law_ended : cSL nm 100 N__law_ended (defScope s__law_ended) (defBody s__law_ended) = some b__law_ended := by kernel_rfl
theorem c__law_begun : cSL nm 100 N__law_begun (defScope s__law_begun) (defBody s__law_begun) = some b__law_begun := by kernel_rfl
theorem c__law_step : cSL nm 100 N__law_step (defScope s__law_step) (defBody s__law_step) = some b__law_step := by kernel_rfl
theorem c__law_line_end : cSL nm 100 N__law_line_end (defScope s__law_line_end) (defBody s__law_line_end) = some b__law_line_end := by kernel_rfl
theorem c__law_is_wordy : cSL nm 100 N__law_is_wordy (defScope s__law_is_wordy) (defBody s__law_is_wordy) = some b__law_is_wordy := by kernel_rfl
theorem c__law_keywords : cSL nm 100 N__law_keywords (defScope s__law_keywords) (defBody s__law_keywords) = some b__law_keywords := by kernel_rfl
theorem c__law_can : cSL nm 100 N__law_can (defScope s__law_can) (defBody s__law_can) = some b__law_can := by kernel_rfl
theorem c__law_line_begun : cSL nm 100 N__law_line_begun (defScope s__law_line_begun) (defBody s__law_line_begun) = some b__law_line_begun := by kernel_rfl
theorem c__law_front : cSL nm 100 N__law_front (defScope s__law_front) (defBody s__law_front) = some b__law_front := by kernel_rfl
theorem c__law_code : cSL nm 100 N__law_code (defScope s__law_code) (defBody s__law_code) = some b__law_code := by kernel_rfl
theorem c__law_in_text : cSL nm 100 N__law_in_text (defScope s__law_in_text) (defBody s__law_in_text) = some b__law_in_text := by kernel_rfl
theorem c__law_after : cSL nm 100 N__law_after (defScope s__law_after) (defBody s__law_after) = some b__law_after := by kernel_rfl
theorem c__law_after_start : cSL nm 100 N__law_after_start (defScope s__law_after_start) (defBody s__law_after_start) = some b__law_after_start := by kernel_rfl
theorem c__law_run : cSL nm 100 N__law_run (defScope s__law_run) (defBody s__law_run) = some b__law_run := by kernel_rfl
theorem c__law_judged : cSL nm 100 N__law_judged (defScope s__law_judged) (defBody s__law_judged) = some b__law_judged := by kernel_rfl
theorem c__law_settled : cSL nm 100 N__law_settled (defScope s__law_settled) (defBody s__law_settled) = some b__law_settled := by kernel_rfl
theorem c_parts : cSL nm 100 N_parts (defScope s_parts) (defBody s_parts) = some b_parts := by kernel_rfl
theorem c_in_phase : cSL nm 100 N_in_phase (defScope s_in_phase) (defBody s_in_phase) = some b_in_phase := by kernel_rfl
theorem c_with_token : cSL nm 100 N_with_token (defScope s_with_token) (defBody s_with_token) = some b_with_token := by kernel_rfl
theorem c_opened : cSL nm 100 N_opened (defScope s_opened) (defBody s_opened) = some b_opened := by kernel_rfl
theorem c_reframed : cSL nm 100 N_reframed (defScope s_reframed) (defBody s_reframed) = some b_reframed := by kernel_rfl
theorem c_closed : cSL nm 100 N_closed (defScope s_closed) (defBody s_closed) = some b_closed := by kernel_rfl
theorem c_innermost : cSL nm 100 N_innermost (defScope s_innermost) (defBody s_innermost) = some b_innermost := by kernel_rfl
theorem c_is_prefix : cSL nm 100 N_is_prefix (defScope s_is_prefix) (defBody s_is_prefix) = some b_is_prefix := by kernel_rfl
end Rp
namespace Rp
open PySem PySem.Spec PyProof.Rows L2
theorem toS_inj {a b : List Ch} (h : toS a = toS b) : a = b := by
  have h1 : (a.map (·.val)).toArray = (b.map (·.val)).toArray := congrArg Str.cps h
  have h2 : a.map (·.val) = b.map (·.val) := by simpa using congrArg Array.toList h1
  exact (List.map_inj_right (fun x y e => Fin.ext e)).mp h2
theorem toS_len (a : List Ch) : (toS a).length = a.length := by
  show (a.map (·.val)).toArray.size = a.length
  simp
theorem toS_app (a b : List Ch) : toS a ++ toS b = toS (a ++ b) := by
  show (⟨(a.map (·.val)).toArray ++ (b.map (·.val)).toArray⟩ : Str) = ⟨((a ++ b).map (·.val)).toArray⟩
  simp
theorem toS_cps (a : List Ch) : (toS a).cps.toList = a.map (·.val) := by
  show ((a.map (·.val)).toArray).toList = _
  simp
theorem beqS_iff : ∀ {a b : List Ch}, beqS a b = true ↔ a = b
  | [], [] => by simp [beqS]
  | [], _ :: _ => by simp [beqS]
  | _ :: _, [] => by simp [beqS]
  | x :: a, y :: b => by
    simp only [beqS, Bool.and_eq_true, List.cons.injEq, beqS_iff (a := a) (b := b)]
    refine and_congr_left fun _ => ?_
    rw [Nat.beq_eq]
    exact ⟨fun h => Fin.ext h, fun h => by rw [h]⟩
theorem beqS_dec (a b : List Ch) : beqS a b = decide (toS a = toS b) := by
  by_cases h : a = b
  · subst h
    rw [beqS_iff.mpr rfl]
    simp
  · have h1 : beqS a b = false := by
      cases e : beqS a b with
      | false => rfl
      | true => exact absurd (beqS_iff.mp e) h
    rw [h1]
    exact (decide_eq_false fun z => h (toS_inj z)).symm
theorem chOf_ok : ∀ {l : List Nat} {s : List Ch}, chOf l = some s → s.map (·.val) = l
  | [], s, h => by
    have e : s = [] := (Option.some.inj h).symm
    rw [e]
    rfl
  | n :: r, s, h => by
    unfold chOf at h
    by_cases hn : n < 1114112
    · rw [dif_pos hn] at h
      cases e : chOf r with
      | none =>
        rw [e] at h
        cases h
      | some t =>
        rw [e] at h
        have e2 : (⟨n, hn⟩ :: t : List Ch) = s := Option.some.inj h
        rw [← e2, List.map_cons, chOf_ok e]
    · rw [dif_neg hn] at h
      cases h
theorem chOf_toS {x : Str} {s : List Ch} (h : chOf x.cps.toList = some s) : toS s = x := by
  have e := chOf_ok h
  show (⟨(s.map (·.val)).toArray⟩ : Str) = x
  rw [e]
theorem fit_le {n : Nat} (h : fit n = true) : n ≤ sizeLine := by
  have : n ≤ 16777216 := Nat.ble_eq.mp h
  rw [sizeLine_eq]
  exact this
section
variable {K : PySem.W.Frag} {T : Cl} {H H' : Hp}
theorem sqT_same {a : Addr} {vs : List V} (e : Same H H') (h : SqT K H a vs) : SqT K H' a vs := by
  rcases h with h | h
  · rcases h with h | ⟨o, h⟩
    · exact .inl (.inl (e _ _ h))
    · exact .inl (.inr ⟨o, e _ _ h⟩)
  · exact .inr h
theorem rd_same {a : Addr} {u : HO} (e : Same H H') (h : Rd H a u) : Rd H' a u := by
  rcases h with h | ⟨o, h⟩
  · exact .inl (e _ _ h)
  · exact .inr ⟨o, e _ _ h⟩
mutual
theorem Rep.mono (e : Same H H') : ∀ {v : V} {d : D}, Rep K T H v d → Rep K T H' v d
  | _, _, .non => .non
  | _, _, .bl b => .bl b
  | _, _, .int i => .int i
  | _, _, .str s => .str s
  | _, _, .tup h r => .tup (sqT_same e h) (RepL.mono e r)
  | _, _, .lst h r => .lst (rd_same e h) (RepL.mono e r)
  | _, _, .dic h k r => .dic (e _ _ h) k (RepL.mono e r)
  | _, _, .ins h k r => .ins (e _ _ h) k (RepL.mono e r)
theorem RepL.mono (e : Same H H') : ∀ {vs : List V} {ds : List D}, RepL K T H vs ds → RepL K T H' vs ds
  | _, _, .nil => .nil
  | _, _, .cons h r => .cons (Rep.mono e h) (RepL.mono e r)
end
theorem RepL.append : ∀ {vs ws : List V} {ds es : List D}, RepL K T H vs ds → RepL K T H ws es → RepL K T H (vs ++ ws) (ds ++ es)
  | _, _, _, _, .nil, s => s
  | _, _, _, _, .cons h r, s => .cons h (RepL.append r s)
theorem RepL.take : ∀ {vs : List V} {ds : List D} (n : Nat), RepL K T H vs ds → RepL K T H (vs.take n) (ds.take n)
  | _, _, 0, _ => .nil
  | _, _, _ + 1, .nil => .nil
  | _, _, n + 1, .cons h r => .cons h (r.take n)
theorem RepL.drop : ∀ {vs : List V} {ds : List D} (n : Nat), RepL K T H vs ds → RepL K T H (vs.drop n) (ds.drop n)
  | _, _, 0, r => r
  | _, _, _ + 1, .nil => .nil
  | _, _, n + 1, .cons _ r => r.drop n
theorem RepL.get : ∀ {vs : List V} {ds : List D} {i : Nat} {d : D}, RepL K T H vs ds → ds[i]? = some d → ∃ v, vs[i]? = some v ∧ Rep K T H v d
  | _, _, _, _, .nil, e => by simp at e
  | _, _, 0, _, .cons h _, e => by
    simp at e
    subst e
    exact ⟨_, rfl, h⟩
  | _, _, i + 1, _, .cons _ r, e => by
    obtain ⟨v, h1, h2⟩ := r.get (i := i) (by simpa using e)
    exact ⟨v, by simpa using h1, h2⟩
theorem RepL.getV : ∀ {vs : List V} {ds : List D} {i : Nat} {v : V}, RepL K T H vs ds → vs[i]? = some v → ∃ d, ds[i]? = some d ∧ Rep K T H v d
  | _, _, _, _, .nil, e => by simp at e
  | _, _, 0, _, .cons h _, e => by
    simp at e
    subst e
    exact ⟨_, rfl, h⟩
  | _, _, i + 1, _, .cons _ r, e => by
    obtain ⟨v, h1, h2⟩ := r.getV (i := i) (by simpa using e)
    exact ⟨v, by simpa using h1, h2⟩
theorem RepL.cut {vs : List V} {ds : List D} (r : RepL K T H vs ds) (lo hi : Option Int) : RepL K T H (cutV vs lo hi) (cutD ds lo hi) := by
  unfold cutV cutD
  rw [r.length]
  exact (r.drop _).take _
theorem RepL.atI {vs : List V} {ds : List D} {i : Int} {d : D} (r : RepL K T H vs ds) (h : L2.atI ds i = some d) : ∃ v, L2.atI vs i = some v ∧ Rep K T H v d := by
  unfold L2.atI at h ⊢
  rw [r.length]
  cases e : ixN ds.length i with
  | none =>
    rw [e] at h
    cases h
  | some j =>
    rw [e] at h
    exact r.get h
theorem Got.now {d : D} {v : V} {Q : VK} (k : Got K T H d Q) (r : Rep K T H v d) : Q v H := k v H (Same.refl H) r
theorem same_new {p : Addr} {o : HO} (hp : H p = none) : Same H (upd H p o) := fun b u e => by
  rw [upd_ne (ne_of_none e hp)]
  exact e
theorem rep_non {v : V} (r : Rep K T H v .non) : v = .non := by cases r; rfl
theorem rep_bl {v : V} {b : Bool} (r : Rep K T H v (.bl b)) : v = .bl b := by cases r; rfl
theorem rep_int {v : V} {i : Int} (r : Rep K T H v (.int i)) : v = .int i := by cases r; rfl
theorem rep_str {v : V} {s : List Ch} (r : Rep K T H v (.str s)) : v = .str (toS s) := by cases r; rfl
theorem rep_tup {v : V} {ds : List D} (r : Rep K T H v (.tup ds)) : ∃ a vs, v = .ref a ∧ SqT K H a vs ∧ RepL K T H vs ds := by
  cases r with
  | tup h r => exact ⟨_, _, rfl, h, r⟩
theorem rep_lst {v : V} {ds : List D} (r : Rep K T H v (.lst ds)) : ∃ a vs, v = .ref a ∧ Rd H a (.lst vs) ∧ RepL K T H vs ds := by
  cases r with
  | lst h r => exact ⟨_, _, rfl, h, r⟩
theorem rep_dic {v : V} {ks : List (List Ch)} {ds : List D} (r : Rep K T H v (.dic ks ds)) :
    ∃ a kvs, v = .ref a ∧ H a = some (.dK kvs) ∧ kvs.map (·.1) = ks.map (fun k => (Sum.inr (toS k) : Key)) ∧ RepL K T H (kvs.map (·.2)) ds := by
  cases r with
  | dic h k r => exact ⟨_, _, rfl, h, k, r⟩
theorem rep_ins {v : V} {c : Nat} {ds : List D} (r : Rep K T H v (.ins c ds)) :
    ∃ a dx fs, v = .ref a ∧ H a = some (.ins (T.at_ c) dx fs) ∧ fs.map (·.1) = T.fld c ∧ RepL K T H (fs.map (·.2)) ds := by
  cases r with
  | ins h k r => exact ⟨_, _, _, rfl, h, k, r⟩
/-- a field of an instance by its place -/
theorem look_at : ∀ {fs : List (Str × V)} {ks : List Str} {i : Nat} {x : Str} {v : V}, fs.map (·.1) = ks → ks.Nodup → ks[i]? = some x → (fs.map (·.2))[i]? = some v → fs.lookup x = some v
  | [], _, i, x, v, e, _, h1, h2 => by simp at h2
  | (y, w) :: r, [], i, x, v, e, _, h1, h2 => by simp at h1
  | (y, w) :: r, k :: ks, 0, x, v, e, nd, h1, h2 => by
    have ey : y = k := by
      have := congrArg List.head? e
      simpa using this
    simp at h1 h2
    subst h1 h2
    show (match k == y with | true => some w | false => r.lookup k) = some w
    rw [ey, beq_self_eq_true]
  | (y, w) :: r, k :: ks, i + 1, x, v, e, nd, h1, h2 => by
    have ey : y = k ∧ r.map (·.1) = ks := by simpa using e
    have hx : x ∈ ks := List.mem_of_getElem? (by simpa using h1)
    have hne : x ≠ y := fun q => (List.nodup_cons.mp nd).1 (by rw [← ey.1, ← q]; exact hx)
    show (match x == y with | true => some w | false => r.lookup x) = some v
    rw [beq_eq_false_iff_ne.mpr hne]
    exact look_at ey.2 (List.nodup_cons.mp nd).2 (by simpa using h1) (by simpa using h2)
theorem look_not : ∀ {fs : List (Str × V)} {ks : List Str} {x : Str}, fs.map (·.1) = ks → x ∉ ks → fs.lookup x = none
  | [], _, _, _, _ => rfl
  | (y, w) :: r, ks, x, e, h => by
    subst e
    simp only [List.map_cons, List.mem_cons, not_or] at h
    show (match x == y with | true => some w | false => r.lookup x) = none
    rw [beq_eq_false_iff_ne.mpr h.1]
    exact look_not rfl h.2
end
end Rp
namespace Rp
open PySem PySem.Spec PyProof.Rows L2
/-- an operator's reading by data -/
def rD (K : PySem.W.Frag) (T : Cl) (o : Op) : R2 := fun x y H Q => ∃ a b d, Rep K T H x a ∧ Rep K T H y b ∧ appOp o a b = some d ∧ Got K T H d Q
section
variable {X : Cx} {T : Cl}
theorem rd_list {pins : List (Addr × Obj)} {σ : L2.St} {H : Hp} {s : Shared} {a : Addr} {xs : List V} (I : Inv X pins σ H s) (h : Rd H a (.lst xs)) :
    xs.length ≤ sizeLine ∧ ∃ (its : List Value) (n : Nat), Vals xs its ∧ xs.length = its.length ∧ s.heap.get? a = some { cls := .type "list", data := .seq its.toArray n } := by
  obtain ⟨z, its, n, r, e⟩ := h.ok I.hok
  exact ⟨z, its, n, r, r.length, e⟩
theorem op_catR : OpR X (binaryOp .Add) (fun x y H Q => ∃ l b xs zs, x = .ref l ∧ y = .ref b ∧ Rd H l (.lst xs) ∧ Rd H b (.lst zs) ∧ xs.length + zs.length ≤ sizeLine ∧ ∀ p, H p = none → Q (.ref p) (upd H p (.lst (xs ++ zs)))) := by
  intro pins s σ H x y v u Q I rx ry h
  obtain ⟨l, b, xs, zs, rfl, rfl, hH, hB, hz, q⟩ := h
  cases rx
  cases ry
  obtain ⟨z, its, n, r, hl, e⟩ := rd_list I hH
  obtain ⟨z2, its2, n2, r2, hl2, e2⟩ := rd_list I hB
  refine PySem.P.add_list e e2 ?_ (by rw [List.size_toArray, List.size_toArray]; omega)
  have ea : its.toArray ++ its2.toArray = (its ++ its2).toArray := by simp
  rw [ea]
  exact ⟨.ref _, _, I.lnew (t' := s.toks) (r.append r2) (by rw [List.length_append]; omega), rfl, q _ I.fresh⟩
theorem op_addD : OpR X (binaryOp .Add) (rD X.K T .add) := by
  intro pins s σ H x y v u Q I rx ry h
  obtain ⟨a, b, d, ra, rb, e, k⟩ := h
  cases a <;> cases b <;> try (exact nomatch (show (Option.none : Option D) = some d from e))
  case int.int i j =>
    cases (show some (D.int (i + j)) = some d from e)
    cases rep_int ra
    cases rep_int rb
    exact op_add pins s σ H _ _ v u Q I rx ry ⟨_, _, rfl, rfl, k.now (.int _)⟩
  case str.str i j =>
    cases hz : fit (i.length + j.length) with
    | false =>
      simp only [appOp, hz] at e
      cases e
    | true =>
      simp only [appOp, hz] at e
      cases e
      cases rep_str ra
      cases rep_str rb
      refine op_add_str pins s σ H _ _ v u Q I rx ry ⟨_, _, rfl, rfl, ?_, ?_⟩
      · rw [toS_len, toS_len]; exact fit_le hz
      · rw [toS_app]; exact k.now (.str _)
  case tup.tup i j =>
    cases hz : fit (i.length + j.length) with
    | false =>
      simp only [appOp, hz] at e
      cases e
    | true =>
      simp only [appOp, hz] at e
      cases e
      obtain ⟨p, xs, rfl, hx, qx⟩ := rep_tup ra
      obtain ⟨q, ys, rfl, hy, qy⟩ := rep_tup rb
      refine op_catA pins s σ H _ _ v u Q I rx ry ⟨p, q, xs, ys, rfl, rfl, hx, hy, ?_, fun h0 => ?_, fun h1 h0 => ?_, fun h1 h2 t ht => ?_⟩
      · rw [qx.length, qy.length]; exact fit_le hz
      · subst h0
        cases qx
        exact k.now (.tup hy qy)
      · subst h0
        cases qy
        rw [List.append_nil] at k
        exact k.now (.tup hx qx)
      · refine k.new ht (.tup (SqT.of upd_same) ?_)
        exact (qx.append qy).mono (same_new ht)
  case lst.lst i j =>
    cases hz : fit (i.length + j.length) with
    | false =>
      simp only [appOp, hz] at e
      cases e
    | true =>
      simp only [appOp, hz] at e
      cases e
      obtain ⟨p, xs, rfl, hx, qx⟩ := rep_lst ra
      obtain ⟨q, ys, rfl, hy, qy⟩ := rep_lst rb
      refine op_catR pins s σ H _ _ v u Q I rx ry ⟨p, q, xs, ys, rfl, rfl, hx, hy, ?_, fun t ht => ?_⟩
      · rw [qx.length, qy.length]; exact fit_le hz
      · refine k.new ht (.lst (.inl upd_same) ?_)
        exact (qx.append qy).mono (same_new ht)
theorem nbeq (a b : Nat) : (a == b) = Nat.beq a b := by
  by_cases h : a = b
  · rw [Nat.beq_eq.mpr h]
    simpa using h
  · have h2 : Nat.beq a b = false := by
      cases e : Nat.beq a b with
      | false => rfl
      | true => exact absurd (Nat.beq_eq.mp e) h
    rw [h2]
    simpa using h
theorem eqSc_ok {H : Hp} {x y : V} {a b : D} {k : Bool} (ra : Rep X.K T H x a) (rb : Rep X.K T H y b) (e : eqSc a b = some k) : flatV x = true ∧ flatV y = true ∧ eqV x y = k ∧ scal x y = true ∧ decide (x = y) = k := by
  cases a <;> cases b <;> try (exact nomatch (show (Option.none : Option Bool) = some k from e))
  case non.non =>
    cases (show some true = some k from e)
    cases rep_non ra
    cases rep_non rb
    exact ⟨rfl, rfl, rfl, rfl, by simp⟩
  case bl.bl i j =>
    cases (show some (i == j) = some k from e)
    cases rep_bl ra
    cases rep_bl rb
    exact ⟨rfl, rfl, rfl, rfl, by rw [dec_bl]⟩
  case int.int i j =>
    cases (show some (decide (i = j)) = some k from e)
    cases rep_int ra
    cases rep_int rb
    exact ⟨rfl, rfl, by show (i == j) = decide (i = j); rw [Bool.beq_eq_decide_eq], rfl, by rw [dec_int, Bool.beq_eq_decide_eq]⟩
  case str.str i j =>
    cases (show some (beqS i j) = some k from e)
    cases rep_str ra
    cases rep_str rb
    refine ⟨rfl, rfl, ?_, rfl, ?_⟩
    · show (toS i == toS j) = beqS i j
      rw [beqS_dec, Bool.beq_eq_decide_eq]
    · rw [dec_str, beqS_dec, Bool.beq_eq_decide_eq]
def pairV (vs ws : List V) (j : Nat) : Bool := match vs[j]?, ws[j]? with
  | some x, some y => eqV x y
  | _, _ => false
theorem zip_ok {H : Hp} : ∀ {vs ws : List V} {xs ys : List D} {k : Bool}, RepL X.K T H vs xs → RepL X.K T H ws ys → zipSc xs ys = some k →
    (List.range (min vs.length ws.length)).all (pairV vs ws) = k ∧ ∀ (j : Nat) (x y : V), vs[j]? = some x → ws[j]? = some y → flatV x = true ∧ flatV y = true
  | [], ws, _, ys, k, .nil, _, e => by
    have e2 : some true = some k := by
      cases ys <;> exact e
    cases e2
    exact ⟨by simp, fun j x y h => by simp at h⟩
  | _ :: _, [], _, _, k, .cons _ _, .nil, e => by
    have e2 : some true = some k := e
    cases e2
    exact ⟨by simp, fun j x y _ h => by simp at h⟩
  | v :: vs, w' :: ws, a :: xs, b :: ys, k, .cons ra r1, .cons rb r2, e => by
    cases e1 : eqSc a b with
    | none =>
      simp only [zipSc, e1] at e
      cases e
    | some k1 =>
      cases e2 : zipSc xs ys with
      | none =>
        simp only [zipSc, e1, e2] at e
        cases e
      | some k2 =>
        simp only [zipSc, e1, e2] at e
        cases e
        obtain ⟨f1, f2, q, _⟩ := eqSc_ok ra rb e1
        obtain ⟨i1, i2⟩ := zip_ok r1 r2 e2
        refine ⟨?_, fun j x y h1 h2 => ?_⟩
        · rw [List.length_cons, List.length_cons, Nat.add_min_add_right, List.range_succ_eq_map, List.all_cons, List.all_map]
          have e0 : pairV (v :: vs) (w' :: ws) 0 = eqV v w' := rfl
          have e3 : (pairV (v :: vs) (w' :: ws) ∘ Nat.succ) = pairV vs ws := rfl
          rw [e0, e3, i1, q]
        · cases j with
          | zero =>
            simp at h1 h2
            subst h1 h2
            exact ⟨f1, f2⟩
          | succ j => exact i2 j x y (by simpa using h1) (by simpa using h2)
theorem zip_at {pins : List (Addr × Obj)} {σ : L2.St} {H : Hp} {s : Shared} {A : Around} {vs ws : List V} {its its2 : List Value} (r : Vals vs its) (r2 : Vals ws its2) (f : ∀ (j : Nat) (x y : V), vs[j]? = some x → ws[j]? = some y → flatV x = true ∧ flatV y = true) :
    ∀ j (h1 : j < its.toArray.size) (h2 : j < its2.toArray.size), SeqAt.EqAt A s its.toArray[j] its2.toArray[j] (pairV vs ws j) := by
  intro j h1 h2
  have l1 : j < its.length := by simpa using h1
  have l2 : j < its2.length := by simpa using h2
  have k1 : j < vs.length := by rw [r.length]; exact l1
  have k2 : j < ws.length := by rw [r2.length]; exact l2
  obtain ⟨u, hu, ru⟩ := r.get (List.getElem?_eq_getElem k1)
  obtain ⟨u2, hu2, ru2⟩ := r2.get (List.getElem?_eq_getElem k2)
  obtain ⟨f1, f2⟩ := f j _ _ (List.getElem?_eq_getElem k1) (List.getElem?_eq_getElem k2)
  have g1 : its.toArray[j] = u := by
    have := List.getElem?_eq_getElem l1
    rw [this] at hu
    simpa using hu
  have g2 : its2.toArray[j] = u2 := by
    have := List.getElem?_eq_getElem l2
    rw [this] at hu2
    simpa using hu2
  rw [g1, g2]
  have e0 : pairV vs ws j = eqV vs[j] ws[j] := by
    unfold pairV
    rw [List.getElem?_eq_getElem k1, List.getElem?_eq_getElem k2]
  rw [e0]
  exact eqAt_V ru ru2 f1 f2
theorem eqD_ok (hu : X.A.units < cLine) {pins : List (Addr × Obj)} {s : Shared} {σ : L2.St} {H : Hp} {x y : V} {v u : Value} {a b : D} {k : Bool} (I : Inv X pins σ H s) (rx : RelV x v) (ry : RelV y u) (ra : Rep X.K T H x a) (rb : Rep X.K T H y b) (e : eqD a b = some k) :
    (∀ (Q : Value → Shared → Prop), (∀ s', Inv X pins σ H s' → Q (.bool k) s') → wpAny (model X.prog X.w) X.A (compareOp .Eq v u) Q X.xe s) ∧
    (∀ (Q : Value → Shared → Prop), (∀ s', Inv X pins σ H s' → Q (.bool (!k)) s') → wpAny (model X.prog X.w) X.A (compareOp .NotEq v u) Q X.xe s) := by
  have scalar : eqSc a b = some k → _ := fun e => by
    obtain ⟨_, _, _, sc, q⟩ := eqSc_ok ra rb e
    have c1 := op_eq (X := X) pins s σ H x y v u (fun w' H' => w' = .bl k ∧ H' = H) I rx ry ⟨sc, by rw [q], rfl⟩
    have c2 := op_ne (X := X) pins s σ H x y v u (fun w' H' => w' = .bl (!k) ∧ H' = H) I rx ry ⟨sc, by rw [q], rfl⟩
    exact (⟨fun Q h => thn c1 fun z s' ⟨w', H', I', r, e1, e2⟩ => by
      subst e1 e2
      cases r
      exact h s' I', fun Q h => thn c2 fun z s' ⟨w', H', I', r, e1, e2⟩ => by
      subst e1 e2
      cases r
      exact h s' I'⟩ : (∀ (Q : Value → Shared → Prop), (∀ s', Inv X pins σ H s' → Q (.bool k) s') → wpAny (model X.prog X.w) X.A (compareOp .Eq v u) Q X.xe s) ∧
        (∀ (Q : Value → Shared → Prop), (∀ s', Inv X pins σ H s' → Q (.bool (!k)) s') → wpAny (model X.prog X.w) X.A (compareOp .NotEq v u) Q X.xe s))
  cases a <;> cases b <;> try (exact scalar e)
  case tup.tup xs ys =>
    cases ez : zipSc xs ys with
    | none =>
      simp only [eqD, ez] at e
      cases e
    | some k1 =>
      simp only [eqD, ez] at e
      cases e
      obtain ⟨p, vs, rfl, hx, qx⟩ := rep_tup ra
      obtain ⟨q, ws, rfl, hy, qy⟩ := rep_tup rb
      cases rx
      cases ry
      obtain ⟨its, r, pl, hz⟩ := I.tuple hx
      obtain ⟨its2, r2, pl2, hz2⟩ := I.tuple hy
      obtain ⟨z1, z2⟩ := zip_ok qx qy ez
      have hall : ((List.range (min its.toArray.size its2.toArray.size)).all (pairV vs ws) && its.toArray.size == its2.toArray.size) = (k1 && Nat.beq xs.length ys.length) := by
        rw [List.size_toArray, List.size_toArray, ← r.length, ← r2.length, z1, qx.length, qy.length, nbeq]
      refine ⟨fun Q h => ?_, fun Q h => ?_⟩
      · refine SeqAt.eq_tupleAt pl pl2 hu (zip_at (pins := pins) (σ := σ) (H := H) r r2 z2) ?_
        rw [hall]
        exact h s I
      · refine (SeqAt.RcNeAt.tuples pl pl2 hu (zip_at (pins := pins) (σ := σ) (H := H) r r2 z2) : SeqAt.RcNeAt X.A s _ _ _) X.prog X.w X.xe Q ?_
        rw [hall]
        exact h s I
  case lst.lst xs ys =>
    obtain ⟨p, vs, rfl, hx, qx⟩ := rep_lst ra
    obtain ⟨q, ws, rfl, hy, qy⟩ := rep_lst rb
    cases rx
    cases ry
    obtain ⟨its, r, pl, hz⟩ := I.list (.inl hx)
    obtain ⟨its2, r2, pl2, hz2⟩ := I.list (.inl hy)
    cases el : Nat.beq xs.length ys.length with
    | false =>
      simp only [eqD, el] at e
      cases e
      have hsz : (its.toArray.size != its2.toArray.size) = true := by
        rw [List.size_toArray, List.size_toArray, ← r.length, ← r2.length, qx.length, qy.length]
        have : xs.length ≠ ys.length := fun q => by rw [Nat.beq_eq.mpr q] at el; cases el
        simpa using this
      exact ⟨fun Q h => SeqAt.eq_list_lengthsAt pl.isList pl2.isList hsz hu (h s I), fun Q h => (SeqAt.RcNeAt.lists_lengths pl.isList pl2.isList hsz hu : SeqAt.RcNeAt X.A s _ _ _) X.prog X.w X.xe Q (h s I)⟩
    | true =>
      simp only [eqD, el] at e
      obtain ⟨z1, z2⟩ := zip_ok qx qy e
      have hl : xs.length = ys.length := Nat.beq_eq.mp el
      have hsz : its.toArray.size = its2.toArray.size := by
        rw [List.size_toArray, List.size_toArray, ← r.length, ← r2.length, qx.length, qy.length, hl]
      have hall : (List.range its.toArray.size).all (pairV vs ws) = k := by
        have hm : min vs.length ws.length = its.toArray.size := by
          rw [List.size_toArray, ← r.length, qx.length, qy.length, hl, Nat.min_self]
        rw [← hm]
        exact z1
      refine ⟨fun Q h => ?_, fun Q h => ?_⟩
      · refine SeqAt.eq_listAt pl.isList pl2.isList hsz hu (zip_at (pins := pins) (σ := σ) (H := H) r r2 z2) ?_
        rw [hall]
        exact h s I
      · refine (SeqAt.RcNeAt.lists pl.isList pl2.isList hsz hu (zip_at (pins := pins) (σ := σ) (H := H) r r2 z2) : SeqAt.RcNeAt X.A s _ _ _) X.prog X.w X.xe Q ?_
        rw [hall]
        exact h s I
theorem op_eqR (hu : X.A.units < cLine) : OpR X (compareOp .Eq) (rD X.K T .eq) := by
  intro pins s σ H x y v u Q I rx ry h
  obtain ⟨a, b, d, ra, rb, e, k⟩ := h
  cases e1 : eqD a b with
  | none =>
    simp only [appOp, e1] at e
    cases e
  | some j =>
    simp only [appOp, e1] at e
    cases e
    exact (eqD_ok hu I rx ry ra rb e1).1 _ fun s' I' => ⟨.bl j, H, I', rfl, k.now (.bl j)⟩
theorem op_neR (hu : X.A.units < cLine) : OpR X (compareOp .NotEq) (rD X.K T .ne) := by
  intro pins s σ H x y v u Q I rx ry h
  obtain ⟨a, b, d, ra, rb, e, k⟩ := h
  cases e1 : eqD a b with
  | none =>
    simp only [appOp, e1] at e
    cases e
  | some j =>
    simp only [appOp, e1] at e
    cases e
    exact (eqD_ok hu I rx ry ra rb e1).2 _ fun s' I' => ⟨.bl (!j), H, I', rfl, k.now (.bl (!j))⟩
theorem op_subD : OpR X (binaryOp .Sub) (rD X.K T .sub) := by
  intro pins s σ H x y v u Q I rx ry h
  obtain ⟨a, b, d, ra, rb, e, k⟩ := h
  cases a <;> cases b <;> try (exact nomatch (show (Option.none : Option D) = some d from e))
  case int.int i j =>
    cases (show some (D.int (i - j)) = some d from e)
    cases rep_int ra
    cases rep_int rb
    exact op_sub pins s σ H _ _ v u Q I rx ry ⟨_, _, rfl, rfl, k.now (.int _)⟩
theorem op_modD : OpR X (binaryOp .Mod) (rD X.K T .mod) := by
  intro pins s σ H x y v u Q I rx ry h
  obtain ⟨a, b, d, ra, rb, e, k⟩ := h
  cases a <;> cases b <;> try (exact nomatch (show (Option.none : Option D) = some d from e))
  case int.int i j =>
    have e2 : (if j ≠ 0 then some (D.int (i.fmod j)) else Option.none) = some d := e
    by_cases hc : j ≠ 0
    · rw [if_pos hc] at e2
      cases e2
      cases rep_int ra
      cases rep_int rb
      exact op_modN pins s σ H _ _ v u Q I rx ry ⟨_, _, rfl, rfl, hc, k.now (.int _)⟩
    · rw [if_neg hc] at e2
      cases e2
theorem op_fdvD : OpR X (binaryOp .FloorDiv) (rD X.K T .fdv) := by
  intro pins s σ H x y v u Q I rx ry h
  obtain ⟨a, b, d, ra, rb, e, k⟩ := h
  cases a <;> cases b <;> try (exact nomatch (show (Option.none : Option D) = some d from e))
  case int.int i j =>
    have e2 : (if j ≠ 0 ∧ j.natAbs < 1073741824 then some (D.int (i.fdiv j)) else Option.none) = some d := e
    by_cases hc : j ≠ 0 ∧ j.natAbs < 1073741824
    · rw [if_pos hc] at e2
      cases e2
      cases rep_int ra
      cases rep_int rb
      exact op_fdivN pins s σ H _ _ v u Q I rx ry ⟨_, _, rfl, rfl, hc, k.now (.int _)⟩
    · rw [if_neg hc] at e2
      cases e2
theorem op_mulD : OpR X (binaryOp .Mult) (rD X.K T .mul) := by
  intro pins s σ H x y v u Q I rx ry h
  obtain ⟨a, b, d, ra, rb, e, k⟩ := h
  cases a <;> cases b <;> try (exact nomatch (show (Option.none : Option D) = some d from e))
  case int.int i j =>
    have e2 : (if (-(2 ^ 64) < i ∧ i < 2 ^ 64) ∨ (-(2 ^ 64) < j ∧ j < 2 ^ 64) then some (D.int (i * j)) else Option.none) = some d := e
    by_cases hc : (-(2 ^ 64) < i ∧ i < 2 ^ 64) ∨ (-(2 ^ 64) < j ∧ j < 2 ^ 64)
    · rw [if_pos hc] at e2
      cases e2
      cases rep_int ra
      cases rep_int rb
      exact op_mul pins s σ H _ _ v u Q I rx ry ⟨_, _, rfl, rfl, hc, k.now (.int _)⟩
    · rw [if_neg hc] at e2
      cases e2
theorem op_ltD : OpR X (compareOp .Lt) (rD X.K T .lt) := by
  intro pins s σ H x y v u Q I rx ry h
  obtain ⟨a, b, d, ra, rb, e, k⟩ := h
  cases a <;> cases b <;> try (exact nomatch (show (Option.none : Option D) = some d from e))
  case int.int i j =>
    cases (show some (D.bl (decide (i < j))) = some d from e)
    cases rep_int ra
    cases rep_int rb
    exact op_lt pins s σ H _ _ v u Q I rx ry ⟨_, _, rfl, rfl, k.now (.bl _)⟩
theorem op_leD : OpR X (compareOp .LtE) (rD X.K T .le) := by
  intro pins s σ H x y v u Q I rx ry h
  obtain ⟨a, b, d, ra, rb, e, k⟩ := h
  cases a <;> cases b <;> try (exact nomatch (show (Option.none : Option D) = some d from e))
  case int.int i j =>
    cases (show some (D.bl (decide (i ≤ j))) = some d from e)
    cases rep_int ra
    cases rep_int rb
    exact op_le pins s σ H _ _ v u Q I rx ry ⟨_, _, rfl, rfl, k.now (.bl _)⟩
theorem op_gtD : OpR X (compareOp .Gt) (rD X.K T .gt) := by
  intro pins s σ H x y v u Q I rx ry h
  obtain ⟨a, b, d, ra, rb, e, k⟩ := h
  cases a <;> cases b <;> try (exact nomatch (show (Option.none : Option D) = some d from e))
  case int.int i j =>
    cases (show some (D.bl (decide (j < i))) = some d from e)
    cases rep_int ra
    cases rep_int rb
    exact op_gt pins s σ H _ _ v u Q I rx ry ⟨_, _, rfl, rfl, k.now (.bl _)⟩
theorem op_geD : OpR X (compareOp .GtE) (rD X.K T .ge) := by
  intro pins s σ H x y v u Q I rx ry h
  obtain ⟨a, b, d, ra, rb, e, k⟩ := h
  cases a <;> cases b <;> try (exact nomatch (show (Option.none : Option D) = some d from e))
  case int.int i j =>
    cases (show some (D.bl (decide (j ≤ i))) = some d from e)
    cases rep_int ra
    cases rep_int rb
    exact op_ge pins s σ H _ _ v u Q I rx ry ⟨_, _, rfl, rfl, k.now (.bl _)⟩
theorem memCh_iff (c : Ch) : ∀ l : List Ch, memCh c l = decide (c.val ∈ l.map (·.val))
  | [] => by simp [memCh]
  | d :: r => by
    simp only [memCh, memCh_iff c r, List.map_cons, List.mem_cons]
    by_cases h : d.val = c.val
    · rw [Nat.beq_eq.mpr h]
      simp [h]
    · have h2 : Nat.beq d.val c.val = false := by
        cases e : Nat.beq d.val c.val with
        | false => rfl
        | true => exact absurd (Nat.beq_eq.mp e) h
      rw [h2]
      have h3 : ¬ c.val = d.val := fun q => h q.symm
      simp [h3]
theorem inStrs_ok {H : Hp} {x : List Ch} : ∀ {ys : List D} {ws : List V} {k : Bool}, RepL X.K T H ws ys → inStrs x ys = some k → ws.all flatV = true ∧ inV (.str (toS x)) ws = k
  | [], _, k, .nil, e => by
    cases (show some false = some k from e)
    exact ⟨rfl, rfl⟩
  | d :: r, _, k, .cons (vs := ws) h q, e => by
    cases d <;> try (exact nomatch (show (Option.none : Option Bool) = some k from e))
    case str y =>
      cases e1 : inStrs x r with
      | none =>
        simp only [inStrs, e1] at e
        cases e
      | some b =>
        simp only [inStrs, e1] at e
        cases e
        obtain ⟨i1, i2⟩ := inStrs_ok q e1
        cases rep_str h
        refine ⟨by rw [List.all_cons, i1]; rfl, ?_⟩
        show ((toS y == toS x) || inV (.str (toS x)) ws) = _
        rw [i2, beqS_dec, Bool.beq_eq_decide_eq]
/-- x in y, not in a dict -/
def noDic : D → Bool
  | .dic _ _ => false
  | _ => true
theorem inD_inv {a b : D} {k : Bool} (h : inD a b = some k) : ∃ sx, a = .str sx ∧ ((∃ c z, sx = [c] ∧ b = .str z ∧ k = memCh c z) ∨ (∃ ys, b = .tup ys ∧ inStrs sx ys = some k) ∨ (∃ ys, b = .lst ys ∧ inStrs sx ys = some k) ∨
    ∃ ks vs, b = .dic ks vs ∧ k = (lookK sx ks vs).isSome) := by
  unfold inD at h
  split at h
  · cases h
    exact ⟨_, rfl, .inl ⟨_, _, rfl, rfl, rfl⟩⟩
  · exact ⟨_, rfl, .inr (.inl ⟨_, rfl, h⟩)⟩
  · exact ⟨_, rfl, .inr (.inr (.inl ⟨_, rfl, h⟩))⟩
  · cases h
    exact ⟨_, rfl, .inr (.inr (.inr ⟨_, _, rfl, rfl⟩))⟩
  · cases h
theorem op_inD : OpR X (compareOp .In) (fun x y H Q => ∃ a b k, Rep X.K T H x a ∧ Rep X.K T H y b ∧ noDic b = true ∧ inD a b = some k ∧ Q (.bl k) H) := by
  intro pins s σ H x y v u Q I rx ry h
  obtain ⟨a, b, k, ra, rb, nd, e, q⟩ := h
  obtain ⟨sx, rfl, hh⟩ := inD_inv e
  cases rep_str ra
  rcases hh with ⟨c, z, rfl, rfl, rfl⟩ | ⟨ys, rfl, e2⟩ | ⟨ys, rfl, e2⟩ | ⟨_, _, rfl, _⟩
  · cases rep_str rb
    refine op_in_sign pins s σ H _ _ v u Q I rx ry ⟨c.val, toS z, rfl, rfl, ?_⟩
    rw [toS_cps, ← memCh_iff]
    exact q
  · obtain ⟨p, ws, rfl, hy, qy⟩ := rep_tup rb
    obtain ⟨i1, i2⟩ := inStrs_ok qy e2
    refine op_in_seq pins s σ H _ _ v u Q I rx ry ⟨p, ws, rfl, .inr hy, rfl, i1, ?_⟩
    rw [i2]
    exact q
  · obtain ⟨p, ws, rfl, hy, qy⟩ := rep_lst rb
    obtain ⟨i1, i2⟩ := inStrs_ok qy e2
    refine op_in_seq pins s σ H _ _ v u Q I rx ry ⟨p, ws, rfl, .inl (.inl hy), rfl, i1, ?_⟩
    rw [i2]
    exact q
  · cases nd
theorem op_notInD : OpR X (compareOp .NotIn) (fun x y H Q => ∃ a b k, Rep X.K T H x a ∧ Rep X.K T H y b ∧ noDic b = true ∧ inD a b = some k ∧ Q (.bl (!k)) H) := by
  intro pins s σ H x y v u Q I rx ry h
  obtain ⟨a, b, k, ra, rb, nd, e, q⟩ := h
  obtain ⟨sx, rfl, hh⟩ := inD_inv e
  cases rep_str ra
  rcases hh with ⟨c, z, rfl, rfl, rfl⟩ | ⟨ys, rfl, e2⟩ | ⟨ys, rfl, e2⟩ | ⟨_, _, rfl, _⟩
  · cases rep_str rb
    refine op_notIn_sign pins s σ H _ _ v u Q I rx ry ⟨c.val, toS z, rfl, rfl, ?_⟩
    rw [toS_cps, ← memCh_iff]
    exact q
  · obtain ⟨p, ws, rfl, hy, qy⟩ := rep_tup rb
    obtain ⟨i1, i2⟩ := inStrs_ok qy e2
    refine op_notIn_seq pins s σ H _ _ v u Q I rx ry ⟨p, ws, rfl, .inr hy, rfl, i1, ?_⟩
    rw [i2]
    exact q
  · obtain ⟨p, ws, rfl, hy, qy⟩ := rep_lst rb
    obtain ⟨i1, i2⟩ := inStrs_ok qy e2
    refine op_notIn_seq pins s σ H _ _ v u Q I rx ry ⟨p, ws, rfl, .inl (.inl hy), rfl, i1, ?_⟩
    rw [i2]
    exact q
  · cases nd
end
end Rp
namespace Rp
open PySem PySem.Spec PyProof.Rows L2
section
variable {K : PySem.W.Frag} {T : Cl} {H H' : Hp} {σ : L2.St} {ρ : Ev}
theorem RepS.mono (r : RepS K T H σ ρ) (e : Same H H') : RepS K T H' σ ρ := ⟨r.len, fun i d h => let ⟨v, h1, h2⟩ := r.at_ i d h; ⟨v, h1, h2.mono e⟩⟩
theorem look_some {i : Nat} {d : D} (h : look ρ i = some d) : ρ[i]? = some (some d) := by
  unfold look at h
  split at h
  · rename_i x e
    cases h
    exact e
  · cases h
theorem RepS.look (r : RepS K T H σ ρ) {i : Nat} {d : D} (h : Rp.look ρ i = some d) : ∃ v, σ[i]? = some (some v) ∧ Rep K T H v d := r.at_ i d (look_some h)
theorem RepS.wipe (r : RepS K T H σ ρ) (i : Nat) : RepS K T H (L2.wipe σ [i]) (wipeD ρ i) := by
  refine ⟨by rw [wipe_length]; unfold wipeD; rw [List.length_set, r.len], fun j e hj => ?_⟩
  unfold wipeD at hj
  by_cases hij : i = j
  · subst hij
    by_cases hl : i < ρ.length
    · rw [List.getElem?_set_self hl] at hj
      cases hj
    · rw [List.getElem?_eq_none (by rw [List.length_set]; omega)] at hj
      cases hj
  · rw [List.getElem?_set_ne hij] at hj
    obtain ⟨v, h1, h2⟩ := r.at_ j e hj
    refine ⟨v, ?_, h2⟩
    show (σ.set i none)[j]? = _
    rw [List.getElem?_set_ne hij]
    exact h1
end
section
variable (G : Gt) (F : Ft) (K : PySem.W.Frag) (T : Cl)
def tC (c : C) : TE := fun σ H Q => ∃ ρ d, RepS K T H σ ρ ∧ evC G F c ρ = some d ∧ Got K T H d Q
def tK (c : C) : TT := fun σ H Q => ∃ ρ b, RepS K T H σ ρ ∧ evC G F c ρ = some (.bl b) ∧ ∀ H', Same H H' → Q b H'
def tL (c : CL) : TA := fun σ H Q => ∃ ρ ds, RepS K T H σ ρ ∧ evL G F c ρ = some ds ∧ ∀ vs H', Same H H' → RepL K T H' vs ds → Q vs H'
def tO (c : CO) : TO := fun σ H Q => ∃ ρ o, RepS K T H σ ρ ∧ evO G F c ρ = some o ∧ ∀ H', Same H H' → Q o H'
end
theorem _root_.L2.PE.wk {X : Cx} {e : Expr} {t t' : TE} (h : PE X e t) (w : ∀ σ H Q, t' σ H Q → t σ H Q) : PE X e t' := ⟨fun pins s σ H Q I q => h.run pins s σ H Q I (w σ H Q q)⟩
theorem _root_.L2.PT.wk {X : Cx} {e : Expr} {t t' : TT} (h : PT X e t) (w : ∀ σ H Q, t' σ H Q → t σ H Q) : PT X e t' := ⟨fun pins s σ H Q I q => h.run pins s σ H Q I (w σ H Q q)⟩
theorem _root_.L2.PW.wk {X : Cx} {e : Expr} {t t' : TT} (h : PW X e t) (w : ∀ σ H Q, t' σ H Q → t σ H Q) : PW X e t' := ⟨fun wh pins s σ H Q I q => h.run wh pins s σ H Q I (w σ H Q q)⟩
theorem _root_.L2.PA.wk {X : Cx} {e : List Expr} {t t' : TA} (h : PA X e t) (w : ∀ σ H Q, t' σ H Q → t σ H Q) : PA X e t' := ⟨fun p pins s σ H Q I q => h.run p pins s σ H Q I (w σ H Q q)⟩
theorem _root_.L2.PO.wk {X : Cx} {e : Option Expr} {t t' : TO} (h : PO X e t) (w : ∀ σ H Q, t' σ H Q → t σ H Q) : PO X e t' := ⟨fun pins s σ H Q I q => h.run pins s σ H Q I (w σ H Q q)⟩
theorem star_plain {e : Expr} {es : List Expr} {env : Env} (h : argE e = true) : starEach (e :: es) env = (false, eval e env) :: starEach es env := by
  cases e <;> first | rfl | cases h
theorem plainIx {b : Expr} (h : argE b = true) : PlainIx b := by
  intro o i
  cases b <;> first | rfl | cases h
theorem noSl {b : Expr} (h : argE b = true) : NoSl b := plainIx h
theorem noMark {b : Expr} {op : CmpOp} (h : argE b = true) : behindInMarks op b = false := by
  cases b <;> first | rfl | cases h
theorem noFold {e : Expr} {env : Env} (h : argE e = true) : ∀ x, foldedSetIterable e env x = pure x := by
  intro x
  cases e <;> first | rfl | cases h
theorem stars_plain {es : List Expr} {env : Env} (h : es.all argE = true) : starEach es env = es.map fun e => (false, eval e env) := by
  induction es with
  | nil => rfl
  | cons e r ih =>
    obtain ⟨h1, h2⟩ : argE e = true ∧ r.all argE = true := by simpa using h
    rw [star_plain h1, ih h2]
    rfl
theorem stars_any {es : List Expr} {env : Env} {pos : Pos} (h : es.all argE = true) : (backTo pos (starEach es env)).any (·.1) = false := by
  rw [stars_plain h]
  unfold backTo
  rw [List.map_map, List.any_map]
  induction es with
  | nil => rfl
  | cons e r ih =>
    obtain ⟨h1, h2⟩ : argE e = true ∧ r.all argE = true := by simpa using h
    rw [List.any_cons, ih h2]
    rfl
theorem base_plain {o : Expr} {f : Str} {env : Env} {whole : Sem Value} (h : recvE o = true) : attributeBase o f env whole = whole := by
  cases o <;> try rfl
  case Call fn args kws pos =>
    cases fn <;> try rfl
    case Name n p =>
      cases args <;> try rfl
      cases kws <;> try rfl
      have hn : n ≠ "super" := by
        intro z
        subst z
        have h2 : (!(decide (("super" : Str) = "super"))) = true := h
        rw [decide_eq_true rfl] at h2
        cases h2
      unfold attributeBase
      have : (n != ("super" : Str)) = true := by simpa using hn
      simp only [this, Bool.true_or, if_true]
theorem vis_of {sc : Scope} {x : Str} (h : visB sc x = true) : Vis sc x := by
  unfold visB at h
  split at h
  · exact .inl (by assumption)
  · exact .inr (.inl (by assumption))
  · exact .inr (.inr (by assumption))
  · cases h
theorem loc_of {sc : Scope} {x : Str} (h : locB sc x = true) : Loc sc x := by
  unfold locB at h
  split at h
  · exact .inl (by assumption)
  · exact .inr (by assumption)
  · cases h
theorem gl_of {X : Cx} {x : Str} (h : glB X.env.scope x = true) : Gl X x := by
  unfold glB at h
  split at h
  · assumption
  · cases h
theorem okN {x : Str} (h : okName x = true) : (x == ("__debug__" : Str)) = false ∧ (x == ("__classdict__" : Str)) = false := by
  unfold okName at h
  simpa using h
theorem ixOf_ok : ∀ {l : List Str} {x : Str} {i : Nat}, ixOf x l = some i → l[i]? = some x
  | [], _, _, h => by cases h
  | y :: r, x, i, h => by
    unfold ixOf at h
    by_cases e : y = x
    · rw [if_pos e] at h
      cases h
      simp [e]
    · rw [if_neg e] at h
      cases q : ixOf x r with
      | none =>
        rw [q] at h
        cases h
      | some j =>
        rw [q] at h
        cases h
        simpa using ixOf_ok q
theorem lookup_mem' {α : Type} {x : Str} {a : α} : ∀ {l : List (Str × α)}, l.lookup x = some a → (x, a) ∈ l
  | [], h => by cases h
  | (y, b) :: r, h => by
    have h2 : (match x == y with | true => some b | false => r.lookup x) = some a := h
    cases q : (x == y) with
    | true =>
      rw [q] at h2
      cases h2
      rw [beq_iff_eq.mp q]
      exact List.mem_cons_self
    | false =>
      rw [q] at h2
      exact List.mem_cons_of_mem _ (lookup_mem' h2)
end Rp
namespace Rp
open PySem PySem.Spec PyProof.Rows L2
/-- a def's promise: it computes f -/
def spD (K : PySem.W.Frag) (T : Cl) (f : List D → Option D) : Sp := fun vs H Q _ => ∃ ds d, RepL K T H vs ds ∧ f ds = some d ∧ Got K T H d Q
/-- the making of a State by its __init__ -/
def spI (K : PySem.W.Frag) (T : Cl) (f : List D → Option D) : Sp := fun vs H Q _ => ∃ x dx ws ds fs, vs = .ref x :: ws ∧ H x = some (.ins (T.at_ 0) dx []) ∧ RepL K T H ws ds ∧ f ds = some (.ins 0 fs) ∧
  ∀ H', (∀ b o, H b = some o → b ≠ x → H' b = some o) → Rep K T H' (.ref x) (.ins 0 fs) → Q .non H'
/-- what the soundness leans on -/
structure Facts (X : Cx) (G : Gt) (F : Ft) (T : Cl) (M : Nm) (m : Nat) : Prop where
  calm : X.calm = true
  nd : X.N.Nodup
  room : Room (m + 2) X.A
  cls : Cls X.K (T.at_ 0)
  fld : T.fld 0 = M.fld
  fnd : M.fld.Nodup
  noat : ∀ f ∈ M.fld, NoAttr X.K (T.at_ 0) f
  nometh : ∀ p ∈ M.mid, p.1 ∉ M.fld
  glo : ∀ x j d, M.gid.lookup x = some j → G.glo j = some d → ∃ u v, X.mg x = some u ∧ RelV v u ∧ ∀ H, Rep X.K T H v d
  tab : ∀ x j, M.tid.lookup x = some j → ∃ a es n, X.mg x = some (.ref a) ∧ KDict X.K X.w a es n ∧ ∀ k d, lookK k (G.tab j).1 (G.tab j).2 = some d → ∃ u v, PySem.W.nsIn X.K a (toS k) = some (some u) ∧ RelV v u ∧ ∀ H, Rep X.K T H v d
  blt : ∀ x ∈ blts, X.mg x = none
  fn : ∀ x f, M.fid.lookup x = some f → ∃ a, X.mg x = some (.ref a) ∧ PySem.W.keepIn X.K (.ref a) = true ∧ FnR X.prog X.w X.K X.mg X.base CX0 (m + 2) a (spD X.K T (F f))
  mt : ∀ x f, M.mid.lookup x = some f → ∃ a, Meth X.K (T.at_ 0) x a ∧ FnR X.prog X.w X.K X.mg X.base CX0 (m + 2) a (spD X.K T (F f))
  mk_ : ∃ a, X.mg M.cls = some (.ref (T.at_ 0)) ∧ Mk X.K (T.at_ 0) a ∧ FnR X.prog X.w X.K X.mg X.base CX0 (m + 1) a (spI X.K T (F 0))
section
variable {X : Cx} {CX : CXT} {k : Nat} {f C : Addr} {sp : Sp} {E : XK} {x m : Str} {e o : Expr} {es : List Expr} {te ta : TE} {t : TA} {p pos apos : Pos}
theorem Facts.hu {G F T M n} (h : Facts X G F T M n) : X.A.units < cLine := h.room.units0
theorem Facts.hu1 {G F T M n} (h : Facts X G F T M n) : X.A.units + 1 < cLine := hu_of h.room
theorem run_R {pins : List (Addr × Obj)} {σ : L2.St} {H : Hp} {s : Shared} {Q : VK} {us : List Value} {vs : List V} (F : FnR X.prog X.w X.K X.mg X.base CX k f sp) (hr : Room k X.A) (hx : Passes CX X E) (I : Inv X pins σ H s) (r : Vals vs us) (h : sp vs H Q E) :
    wpAny (model X.prog X.w) X.A (call (.ref f) us) (EP X pins σ Q) X.xe s := wpAny_call (run_fnR F hr hx I r h)
/-- f(..) -/
theorem pe_callR0 (F : FnR X.prog X.w X.K X.mg X.base CX k f sp) (hr : Room k X.A) (hg : Gl X x) (hm : X.mg x = some (.ref f)) (hk : PySem.W.keepIn X.K (.ref f) = true) (hx : Passes CX X E)
    (hdb : (x == ("__debug__" : Str)) = false) : PE X (.Call (.Name x p) [] [] pos) (fun σ H Q => sp [] H Q E) := by
  refine ⟨fun pins s σ H Q I h => ?_⟩
  refine wpAny_Call_Name_kw (ld_glob I hg hm ?_ hdb)
  exact PySem.W.callWith_K0 I.kIn hk (run_R F hr hx I .nil h)
theorem pe_callR (F : FnR X.prog X.w X.K X.mg X.base CX k f sp) (hr : Room k X.A) (hg : Gl X x) (hm : X.mg x = some (.ref f)) (hk : PySem.W.keepIn X.K (.ref f) = true) (hx : Passes CX X E) (ha : PA X (e :: es) t)
    (hdb : (x == ("__debug__" : Str)) = false) (he : (e :: es).all argE = true) : PE X (.Call (.Name x p) (e :: es) [] pos) (fun σ H Q => t σ H fun vs H1 => sp vs H1 Q E) := by
  refine ⟨fun pins s σ H Q I h => ?_⟩
  refine wpAny_Call_Name_kw (ld_glob I hg hm ?_ hdb)
  obtain ⟨h1, h2⟩ : argE e = true ∧ es.all argE = true := by simpa using he
  refine PySem.W.callWith_K (h₀ := X.base) I.ok.mod.kin hk (thn (ha.run pos pins s σ H _ I h) fun us s1 ⟨vs, H1, I1, r, q⟩ => ⟨I1.kIn, ?_⟩) (star_plain h1) (stars_any h2)
  exact run_R F hr hx I1 r q
/-- C() -/
theorem pe_makeR0 (M : Mk X.K C f) (F : FnR X.prog X.w X.K X.mg X.base CX k f sp) (hr : Room (k + 1) X.A) (hg : Gl X x) (hm : X.mg x = some (.ref C)) (hx : Passes CX X E) (hdb : (x == ("__debug__" : Str)) = false) :
    PE X (.Call (.Name x p) [] [] pos) (StX.tMakeR C sp E tNil) := by
  refine ⟨fun pins s σ H Q I h => ?_⟩
  refine wpAny_Call_Name_kw (ld_glob I hg hm ?_ hdb)
  exact PySem.W.callWith_K0 I.kIn M.kp (StX.run_makeR M F hr hx I .nil h)
theorem meth_tree {env : Env} (hb : recvE o = true) (he : es.all argE = true) (hn : es.length < 30) (hl : apos.endLine = pos.line) : ∃ pl : Sem Bool, eval (.Call (.Attribute o m apos) es [] pos) env = (do
      let ov ← eval o env
      standAt apos.atName
      let (f, first) ← holding [ov] (getMethod ov m pl)
      callWith pos f first (backTo pos (starEach es env)) (backToKw pos (keywordEach [] env))) := by
  refine ⟨(do return (← importBound o env).getD true), ?_⟩
  rw [arm_eval_Call, base_plain hb]
  have h1 : methodCallForm (es.length + ([] : List Keyword).length) (backTo pos (starEach es env)) (backToKw pos (keywordEach [] env)) = true := by
    have h2 : (backTo pos (starEach es env)).all (fun x => !x.1) = true := by
      have h3 := stars_any (pos := pos) (env := env) he
      rw [List.all_eq_not_any_not]
      simpa using h3
    unfold methodCallForm
    rw [h2]
    show (true && (true && decide (es.length + 0 + 0 < 30))) = true
    simpa using hn
  unfold methodCall
  rw [h1]
  have h4 : methodCallPos true o env apos pos = pure pos := by
    unfold methodCallPos
    have : (apos.endLine == pos.line) = true := by simpa using hl
    rw [this]
    rfl
  rw [h4]
  rfl
/-- o.m(..) -/
theorem pe_methR (hb : recvE o = true) (hl : apos.endLine = pos.line) (hn : (e :: es).length < 30) (he : PE X o ta) (c : Cls X.K C) (hm : Meth X.K C m f) (F : FnR X.prog X.w X.K X.mg X.base CX k f sp) (hr : Room k X.A) (hx : Passes CX X E) (ha : PA X (e :: es) t)
    (hes : (e :: es).all argE = true) : PE X (.Call (.Attribute o m apos) (e :: es) [] pos) (fun σ H Q => ta σ H fun x H1 => ∃ a dx fs, x = .ref a ∧ H1 a = some (.ins C dx fs) ∧ fs.lookup m = none ∧ t σ H1 fun vs H2 => sp (x :: vs) H2 Q E) := by
  obtain ⟨pl, ht⟩ := meth_tree (m := m) (env := X.env) hb hes hn hl
  refine ⟨fun pins s σ H Q I h => ?_⟩
  refine PySem.W.methodCall_KW (pl := pl) (thn (he.run pins s σ H _ I h) fun u s1 ⟨x, H1, I1, rx, a, dx, fs, ex, ea, l, q⟩ => ?_) ht
  subst ex
  obtain rfl : u = Value.ref a := rx
  refine getmeth_ok I1 ea c hm l ?_
  obtain ⟨h1, h2⟩ : argE e = true ∧ es.all argE = true := by simpa using hes
  refine PySem.W.callWith_K (first := [.ref a]) (h₀ := X.base) I.ok.mod.kin hm.kp (thn (ha.run pos pins s1 σ H1 _ I1 q) fun us s2 ⟨vs, H2, I2, r, q2⟩ => ⟨I2.kIn, ?_⟩) (star_plain h1) (stars_any h2)
  exact run_R (us := .ref a :: us) (vs := .ref a :: vs) F hr hx I2 (.cons rfl r) q2
theorem pe_methR0 (hb : recvE o = true) (hl : apos.endLine = pos.line) (he : PE X o ta) (c : Cls X.K C) (hm : Meth X.K C m f) (F : FnR X.prog X.w X.K X.mg X.base CX k f sp) (hr : Room k X.A) (hx : Passes CX X E) :
    PE X (.Call (.Attribute o m apos) [] [] pos) (fun σ H Q => ta σ H fun x H1 => ∃ a dx fs, x = .ref a ∧ H1 a = some (.ins C dx fs) ∧ fs.lookup m = none ∧ sp [x] H1 Q E) := by
  obtain ⟨pl, ht⟩ := meth_tree (o := o) (m := m) (env := X.env) (es := []) (apos := apos) (pos := pos) hb rfl (by decide) hl
  refine ⟨fun pins s σ H Q I h => ?_⟩
  refine PySem.W.methodCall_KW (pl := pl) (thn (he.run pins s σ H _ I h) fun u s1 ⟨x, H1, I1, rx, a, dx, fs, ex, ea, l, q⟩ => ?_) ht
  subst ex
  obtain rfl : u = Value.ref a := rx
  refine getmeth_ok I1 ea c hm l ?_
  exact PySem.W.callWith_K0 (first := [.ref a]) I1.kIn hm.kp (run_R (us := [.ref a]) (vs := [.ref a]) F hr hx I1 (.cons rfl .nil) q)
end
end Rp
namespace Rp
open PySem PySem.Spec PyProof.Rows L2
structure Snd (G : Gt) (F : Ft) (T : Cl) (M : Nm) (m n : Nat) : Prop where
  E : ∀ (X : Cx) (e : Expr) (c : C), Facts X G F T M m → cE M n X.N X.env.scope e = some c → PE X e (tC G F X.K T c)
  P : ∀ (X : Cx) (e : Expr) (c : C), Facts X G F T M m → cE M n X.N X.env.scope e = some c → PT X e (tK G F X.K T c)
  L : ∀ (X : Cx) (es : List Expr) (c : CL), Facts X G F T M m → cL M n X.N X.env.scope es = some c → PA X es (tL G F X.K T c)
  O : ∀ (X : Cx) (e : Option Expr) (c : CO), Facts X G F T M m → cO M n X.N X.env.scope e = some c → PO X e (tO G F X.K T c)
section
variable {X : Cx} {G : Gt} {F : Ft} {T : Cl} {M : Nm} {m n : Nat} {pos : Pos} {a b e : Expr} {ca cb cc : C} {K : PySem.W.Frag}
theorem q_name {x : Str} {i : Nat} (Fx : Facts X G F T M m) (ok : okName x = true) (hv : visB X.env.scope x = true) (hi : X.N[i]? = some x) : PE X (.Name x pos) (tC G F X.K T (.var i)) := by
  refine (pe_var hi (vis_of hv) (okN ok).1 (okN ok).2).wk fun σ H Q ⟨ρ, d, rs, ev, k⟩ => ?_
  obtain ⟨v, h1, h2⟩ := rs.look (by simpa only [evC] using ev)
  exact ⟨v, h1, k.now h2⟩
theorem q_glo {x : Str} {j : Nat} (Fx : Facts X G F T M m) (ok : okName x = true) (hg : glB X.env.scope x = true) (hj : M.gid.lookup x = some j) : PE X (.Name x pos) (tC G F X.K T (.glo j)) := by
  refine ⟨fun pins s σ H Q I ⟨ρ, d, rs, ev, k⟩ => ?_⟩
  obtain ⟨u, v, h1, h2, h3⟩ := Fx.glo x j d hj (by simpa only [evC] using ev)
  exact (pe_glob (gl_of hg) h1 h2 (okN ok).1).run pins s σ H Q I (k.now (h3 H))
theorem q_cst {v : V} {d : D} (h : PE X e (L2.tC v)) (r : ∀ H, Rep X.K T H v d) : PE X e (tC G F X.K T (.cst d)) := by
  refine h.wk fun σ H Q ⟨ρ, d', rs, ev, k⟩ => ?_
  have e2 : some d = some d' := by simpa only [evC] using ev
  cases e2
  exact k.now (r H)
theorem q_tup {es : List Expr} {cl : CL} {x1 : Nat} (h : PA X es (tL G F X.K T cl)) : PE X (.Tuple es x1 pos) (tC G F X.K T (.tup cl)) := by
  refine (pe_tup h).wk fun σ H Q ⟨ρ, d, rs, ev, k⟩ => ?_
  simp only [evC] at ev
  cases e1 : evL G F cl ρ with
  | none => simp only [e1] at ev; cases ev
  | some ds =>
    simp only [e1] at ev
    cases e2 : fit ds.length with
    | false => simp only [e2] at ev; cases ev
    | true =>
      simp only [e2] at ev
      cases ev
      refine ⟨ρ, ds, rs, e1, fun vs H1 s1 r1 => ⟨by rw [r1.length]; exact fit_le e2, fun p hp => ?_⟩⟩
      exact k _ _ (s1.trans (same_new hp)) (.tup (SqT.of upd_same) (r1.mono (same_new hp)))
theorem q_lst {es : List Expr} {cl : CL} (h : PA X es (tL G F X.K T cl)) : PE X (.List es pos) (tC G F X.K T (.lst cl)) := by
  refine (pe_lst h).wk fun σ H Q ⟨ρ, d, rs, ev, k⟩ => ?_
  simp only [evC] at ev
  cases e1 : evL G F cl ρ with
  | none => simp only [e1] at ev; cases ev
  | some ds =>
    simp only [e1] at ev
    cases e2 : fit ds.length with
    | false => simp only [e2] at ev; cases ev
    | true =>
      simp only [e2] at ev
      cases ev
      refine ⟨ρ, ds, rs, e1, fun vs H1 s1 r1 => ⟨by rw [r1.length]; exact fit_le e2, fun p hp => ?_⟩⟩
      exact k _ _ (s1.trans (same_new hp)) (.lst (.inl upd_same) (r1.mono (same_new hp)))
/-- two operands, then what is asked of their data -/
theorem two {σ : L2.St} {H : Hp} {ρ : Ev} {R : V → V → Hp → Prop} {x y : D} (rs : RepS K T H σ ρ) (ea : evC G F ca ρ = some x) (eb : evC G F cb ρ = some y)
    (h : ∀ v w H', Same H H' → Rep K T H' v x → Rep K T H' w y → R v w H') : tC G F K T ca σ H fun v H1 => tC G F K T cb σ H1 fun w H2 => R v w H2 :=
  ⟨ρ, x, rs, ea, fun v H1 s1 r1 => ⟨ρ, y, rs.mono s1, eb, fun w H2 s2 r2 => h v w H2 (s1.trans s2) (r1.mono s2) r2⟩⟩
theorem bin_inv {o : Op} {ρ : Ev} {d : D} (ev : evC G F (.bin o ca cb) ρ = some d) : ∃ x y, evC G F ca ρ = some x ∧ evC G F cb ρ = some y ∧ appOp o x y = some d := by
  simp only [evC] at ev
  cases e1 : evC G F ca ρ with
  | none => simp only [e1] at ev; cases ev
  | some x =>
    cases e2 : evC G F cb ρ with
    | none => simp only [e1, e2] at ev; cases ev
    | some y => exact ⟨x, y, rfl, rfl, by simpa only [e1, e2] using ev⟩
theorem cmp_inv {o : Op} {ρ : Ev} {d : D} (ev : evC G F (.cmp o ca cb) ρ = some d) : ∃ x y, evC G F ca ρ = some x ∧ evC G F cb ρ = some y ∧ appOp o x y = some d := by
  simp only [evC] at ev
  cases e1 : evC G F ca ρ with
  | none => simp only [e1] at ev; cases ev
  | some x =>
    cases e2 : evC G F cb ρ with
    | none => simp only [e1, e2] at ev; cases ev
    | some y => exact ⟨x, y, rfl, rfl, by simpa only [e1, e2] using ev⟩
theorem bin_read {o : Op} {σ : L2.St} {H : Hp} {Q : VK} {ρ : Ev} {d : D} (rs : RepS K T H σ ρ) (ev : ∃ x y, evC G F ca ρ = some x ∧ evC G F cb ρ = some y ∧ appOp o x y = some d) (k : Got K T H d Q) : tOp (rD K T o) (tC G F K T ca) (tC G F K T cb) σ H Q := by
  obtain ⟨x, y, e1, e2, e3⟩ := ev
  exact two rs e1 e2 fun v w H' s r1 r2 => ⟨x, y, d, r1, r2, e3, fun z H2 s2 r => k z H2 (s.trans s2) r⟩
theorem q_bin {op : Operator} {o : Op} (ho : opOf op = some o) (ha : PE X a (tC G F X.K T ca)) (hb : PE X b (tC G F X.K T cb)) : PE X (.BinOp a op b pos) (tC G F X.K T (.bin o ca cb)) := by
  have main : OpR X (binaryOp op) (rD X.K T o) → PE X (.BinOp a op b pos) (tC G F X.K T (.bin o ca cb)) := fun h =>
    (pe_op h ha hb).wk fun σ H Q ⟨ρ, d, rs, ev, k⟩ => bin_read rs (bin_inv ev) k
  cases op <;> try (cases ho; done)
  · cases ho; exact main op_addD
  · cases ho; exact main op_subD
  · cases ho; exact main op_mulD
  · cases ho; exact main op_modD
  · cases ho; exact main op_fdvD
theorem q_not (ha : PE X a (tC G F X.K T ca)) : PE X (.UnaryOp .Not a pos) (tC G F X.K T (.not ca)) := by
  refine (pe_not ha).wk fun σ H Q ⟨ρ, d, rs, ev, k⟩ => ?_
  simp only [evC] at ev
  split at ev
  · rename_i b e1
    cases ev
    refine ⟨ρ, .bl b, rs, e1, fun v H1 s1 r1 => ⟨b, rep_bl r1, k _ _ s1 (.bl _)⟩⟩
  · cases ev
theorem q_neg (ha : PE X a (tC G F X.K T ca)) : PE X (.UnaryOp .USub a pos) (tC G F X.K T (.neg ca)) := by
  refine (pe_un un_neg ha).wk fun σ H Q ⟨ρ, d, rs, ev, k⟩ => ?_
  simp only [evC] at ev
  split at ev
  · rename_i i e1
    cases ev
    refine ⟨ρ, .int i, rs, e1, fun v H1 s1 r1 => ⟨i, rep_int r1, k _ _ s1 (.int _)⟩⟩
  · cases ev
theorem rep_isN {H : Hp} {v : V} {d : D} (r : Rep K T H v d) : decide (v = .non) = (match d with | .non => true | _ => false) := by
  cases r <;> simp
theorem noneC_is (h : noneC b = true) : ∃ j p, b = .Constant .none j p := by
  unfold noneC at h
  split at h
  · exact ⟨_, _, rfl⟩
  · cases h
theorem q_isN (hn : noneC b = true) (ha : PE X a (tC G F X.K T ca)) : PE X (.Compare a [.Is] [b] pos) (tC G F X.K T (.isN ca)) ∧ PT X (.Compare a [.Is] [b] pos) (tK G F X.K T (.isN ca)) := by
  obtain ⟨j, p, rfl⟩ := noneC_is hn
  have read : ∀ {σ H ρ d} {Q : VK}, RepS X.K T H σ ρ → evC G F (.isN ca) ρ = some d → Got X.K T H d Q → tIsN (tC G F X.K T ca) σ H Q := by
    intro σ H ρ d Q rs ev k
    simp only [evC] at ev
    cases e1 : evC G F ca ρ with
    | none => simp only [e1] at ev; cases ev
    | some x =>
      refine ⟨ρ, x, rs, e1, fun v H1 s1 r1 => ?_⟩
      have h := rep_isN r1
      show Q (.bl (decide (v = .non))) H1
      rw [h]
      cases x <;> (simp only [e1] at ev; cases ev; exact k _ _ s1 (.bl _))
  refine ⟨(pe_cmp (pc_isN ha)).wk fun σ H Q ⟨ρ, d, rs, ev, k⟩ => read rs ev k, (pt_cmp (pc_isN ha)).wk fun σ H Q ⟨ρ, b, rs, ev, k⟩ => read rs ev fun v H' s r => ⟨b, rep_bl r, k H' s⟩⟩
theorem q_notN (hn : noneC b = true) (ha : PE X a (tC G F X.K T ca)) : PE X (.Compare a [.IsNot] [b] pos) (tC G F X.K T (.notN ca)) ∧ PT X (.Compare a [.IsNot] [b] pos) (tK G F X.K T (.notN ca)) := by
  obtain ⟨j, p, rfl⟩ := noneC_is hn
  have read : ∀ {σ H ρ d} {Q : VK}, RepS X.K T H σ ρ → evC G F (.notN ca) ρ = some d → Got X.K T H d Q → tNotN (tC G F X.K T ca) σ H Q := by
    intro σ H ρ d Q rs ev k
    simp only [evC] at ev
    cases e1 : evC G F ca ρ with
    | none => simp only [e1] at ev; cases ev
    | some x =>
      refine ⟨ρ, x, rs, e1, fun v H1 s1 r1 => ?_⟩
      have h := rep_isN r1
      show Q (.bl (!decide (v = .non))) H1
      rw [h]
      cases x <;> (simp only [e1] at ev; cases ev; exact k _ _ s1 (.bl _))
  refine ⟨(pe_cmp (pc_notN ha)).wk fun σ H Q ⟨ρ, d, rs, ev, k⟩ => read rs ev k, (pt_cmp (pc_notN ha)).wk fun σ H Q ⟨ρ, b, rs, ev, k⟩ => read rs ev fun v H' s r => ⟨b, rep_bl r, k H' s⟩⟩
theorem lookK_ok {H : Hp} {k : List Ch} : ∀ {kvs : List (Key × V)} {ks : List (List Ch)} {ds : List D}, kvs.map (·.1) = ks.map (fun k => (Sum.inr (toS k) : Key)) → RepL K T H (kvs.map (·.2)) ds →
    (∀ d, lookK k ks ds = some d → ∃ v, valV kvs (Sum.inr (toS k) : Key) = some v ∧ Rep K T H v d) ∧ (lookK k ks ds = none → valV kvs (Sum.inr (toS k) : Key) = none)
  | [], [], ds, _, r => by
    have r' : RepL K T H [] ds := r
    cases r'
    exact ⟨fun d h => (by cases h), fun _ => rfl⟩
  | (q, v) :: r, [], ds, h, _ => by simp at h
  | [], _ :: _, ds, h, _ => by simp at h
  | (q, v) :: r, x :: ks, ds, h, rr => by
    have h : q = Sum.inr (toS x) ∧ r.map (·.1) = ks.map (fun k => (Sum.inr (toS k) : Key)) := by
      have h3 : q :: r.map (·.1) = Sum.inr (toS x) :: ks.map (fun k => (Sum.inr (toS k) : Key)) := h
      injection h3 with h4 h5
      exact ⟨h4, h5⟩
    obtain ⟨h1, h2⟩ := h
    have rr' : RepL K T H (v :: r.map (·.2)) ds := rr
    cases rr' with
    | @cons _ _ d ds hd hr =>
      obtain ⟨i1, i2⟩ := lookK_ok (k := k) h2 hr
      subst h1
      have hdec : decide ((Sum.inr (toS x) : Key) = Sum.inr (toS k)) = beqS x k := by rw [key_rr, beqS_dec]
      have hval : valV ((Sum.inr (toS x), v) :: r) (Sum.inr (toS k) : Key) = if beqS x k = true then some v else valV r (Sum.inr (toS k) : Key) := by
        unfold valV
        rw [List.find?_cons]
        simp only [hdec]
        cases beqS x k <;> rfl
      rw [hval]
      unfold lookK
      cases beqS x k with
      | true => exact ⟨fun d' h => by cases h; exact ⟨v, rfl, hd⟩, fun h => by cases h⟩
      | false => exact ⟨fun d' h => i1 d' h, fun h => i2 h⟩
theorem in_read {neg : Bool} {o : Op} {ρ : Ev} {d : D} (ho : ∀ x y, appOp o x y = (inD x y).map fun c => D.bl (if neg = true then !c else c)) (ev : evC G F (.cmp o ca cb) ρ = some d) : (∃ x y k, evC G F ca ρ = some x ∧ evC G F cb ρ = some y ∧ noDic y = true ∧ inD x y = some k ∧ d = .bl (if neg = true then !k else k)) ∨
      ∃ x ks vs, evC G F ca ρ = some (.str x) ∧ evC G F cb ρ = some (.dic ks vs) ∧ d = .bl (if neg = true then !(lookK x ks vs).isSome else (lookK x ks vs).isSome) := by
  obtain ⟨x, y, e1, e2, ev⟩ := cmp_inv ev
  rw [ho] at ev
  cases e3 : inD x y with
  | none => rw [e3] at ev; cases ev
  | some k =>
    rw [e3] at ev
    cases ev
    cases hy : noDic y with
    | true => exact .inl ⟨x, y, k, e1, e2, hy, e3, rfl⟩
    | false =>
      obtain ⟨sx, rfl, hh⟩ := inD_inv e3
      rcases hh with ⟨_, _, _, rfl, _⟩ | ⟨_, rfl, _⟩ | ⟨_, rfl, _⟩ | ⟨ks, vs, rfl, rfl⟩
      · cases hy
      · cases hy
      · cases hy
      · exact .inr ⟨sx, ks, vs, e1, e2, rfl⟩
theorem in_dic {σ : L2.St} {H : Hp} {ρ : Ev} {Q : Option V → Hp → Prop} {x : List Ch} {ks : List (List Ch)} {vs : List D} (rs : RepS K T H σ ρ) (ea : evC G F ca ρ = some (.str x)) (eb : evC G F cb ρ = some (.dic ks vs))
    (h : ∀ o H', Same H H' → o.isSome = (lookK x ks vs).isSome → Q o H') : tC G F K T ca σ H fun y H1 => tC G F K T cb σ H1 fun z H2 => ∃ a o, z = .ref a ∧ DGet H2 a y o ∧ Q o H2 := by
  refine two rs ea eb fun v w H' s r1 r2 => ?_
  cases rep_str r1
  obtain ⟨p, kvs, rfl, hp, hk, hr⟩ := rep_dic r2
  refine ⟨p, valV kvs (Sum.inr (toS x)), rfl, DGet.k (k := Sum.inr (toS x)) hp, h _ _ s ?_⟩
  obtain ⟨i1, i2⟩ := lookK_ok (k := x) hk hr
  cases e : lookK x ks vs with
  | none => rw [i2 e]; rfl
  | some d =>
    obtain ⟨v, h1, _⟩ := i1 d e
    rw [h1]; rfl
theorem q_cmp {op : CmpOp} {o : Op} (Fx : Facts X G F T M m) (ho : cmpOf op = some o) (hb0 : argE b = true) (ha : PE X a (tC G F X.K T ca)) (hb : PE X b (tC G F X.K T cb)) :
    PE X (.Compare a [op] [b] pos) (tC G F X.K T (.cmp o ca cb)) ∧ PT X (.Compare a [op] [b] pos) (tK G F X.K T (.cmp o ca cb)) := by
  have main : OpR X (compareOp op) (rD X.K T o) → _ := fun h =>
    (⟨(pe_cmpR h ha hb (noMark hb0)).wk fun σ H Q ⟨ρ, d, rs, ev, k⟩ => bin_read rs (cmp_inv ev) k,
      (pt_cmpR h ha hb (noMark hb0)).wk fun σ H Q ⟨ρ, d, rs, ev, k⟩ => bin_read rs (cmp_inv ev) fun v H' s r => ⟨d, rep_bl r, k H' s⟩⟩ :
      PE X (.Compare a [op] [b] pos) (tC G F X.K T (.cmp o ca cb)) ∧ PT X (.Compare a [op] [b] pos) (tK G F X.K T (.cmp o ca cb)))
  cases op <;> try (cases ho; done)
  · cases ho; exact main (op_eqR Fx.hu)
  · cases ho; exact main (op_neR Fx.hu)
  · cases ho; exact main op_ltD
  · cases ho; exact main op_leD
  · cases ho; exact main op_gtD
  · cases ho; exact main op_geD
  · cases ho
    have r1 : ∀ {σ H ρ d} {Q : VK}, RepS X.K T H σ ρ → evC G F (.cmp .isin ca cb) ρ = some d → Got X.K T H d Q →
        (tOp (fun x y H Q => ∃ a b k, Rep X.K T H x a ∧ Rep X.K T H y b ∧ noDic b = true ∧ inD a b = some k ∧ Q (.bl k) H) (tC G F X.K T ca) (tC G F X.K T cb) σ H Q ∨ tDIn (tC G F X.K T ca) (tC G F X.K T cb) σ H Q) := by
      intro σ H ρ d Q rs ev k
      rcases in_read (neg := false) (fun _ _ => rfl) ev with ⟨x, y, j, e1, e2, hn, e3, rfl⟩ | ⟨x, ks, vs, e1, e2, rfl⟩
      · exact .inl (two rs e1 e2 fun v w H' s q1 q2 => ⟨x, y, j, q1, q2, hn, e3, k _ _ s (.bl _)⟩)
      · exact .inr (in_dic rs e1 e2 fun o H' s ho => by rw [ho]; exact k _ _ s (.bl _))
    refine ⟨((pe_cmpR op_inD ha hb (noMark hb0)).or (pe_cmp (pc_din Fx.hu1 ha hb) (noMark hb0))).wk fun σ H Q ⟨ρ, d, rs, ev, k⟩ => r1 rs ev k,
      ((pt_cmpR op_inD ha hb (noMark hb0)).or (pt_cmp (pc_din Fx.hu1 ha hb) (noMark hb0))).wk fun σ H Q ⟨ρ, d, rs, ev, k⟩ => r1 rs ev fun v H' s r => ⟨d, rep_bl r, k H' s⟩⟩
  · cases ho
    have r1 : ∀ {σ H ρ d} {Q : VK}, RepS X.K T H σ ρ → evC G F (.cmp .notin ca cb) ρ = some d → Got X.K T H d Q →
        (tOp (fun x y H Q => ∃ a b k, Rep X.K T H x a ∧ Rep X.K T H y b ∧ noDic b = true ∧ inD a b = some k ∧ Q (.bl (!k)) H) (tC G F X.K T ca) (tC G F X.K T cb) σ H Q ∨ tDNotIn (tC G F X.K T ca) (tC G F X.K T cb) σ H Q) := by
      intro σ H ρ d Q rs ev k
      rcases in_read (neg := true) (fun _ _ => rfl) ev with ⟨x, y, j, e1, e2, hn, e3, rfl⟩ | ⟨x, ks, vs, e1, e2, rfl⟩
      · exact .inl (two rs e1 e2 fun v w H' s q1 q2 => ⟨x, y, j, q1, q2, hn, e3, k _ _ s (.bl _)⟩)
      · exact .inr (in_dic rs e1 e2 fun o H' s ho => by rw [ho]; exact k _ _ s (.bl _))
    refine ⟨((pe_cmpR op_notInD ha hb (noMark hb0)).or (pe_cmp (pc_dnotin Fx.hu1 ha hb) (noMark hb0))).wk fun σ H Q ⟨ρ, d, rs, ev, k⟩ => r1 rs ev k,
      ((pt_cmpR op_notInD ha hb (noMark hb0)).or (pt_cmp (pc_dnotin Fx.hu1 ha hb) (noMark hb0))).wk fun σ H Q ⟨ρ, d, rs, ev, k⟩ => r1 rs ev fun v H' s r => ⟨d, rep_bl r, k H' s⟩⟩
end
end Rp
namespace Rp
open PySem PySem.Spec PyProof.Rows L2
section
variable {X : Cx} {G : Gt} {F : Ft} {T : Cl} {M : Nm} {m n : Nat} {pos : Pos} {a b c e : Expr} {ca cb cc : C} {K : PySem.W.Frag}
theorem noMarks {op op' : CmpOp} (hb : argE b = true) (hc : argE c = true) : lastMarks [op, op'] [b, c] = false := by
  show behindInMarks op' c = false
  exact noMark hc
theorem q_chain (hb0 : argE b = true) (hc0 : argE c = true) (ha : PE X a (tC G F X.K T ca)) (hb : PE X b (tC G F X.K T cb)) (hc : PE X c (tC G F X.K T cc)) :
    PE X (.Compare a [.LtE, .Lt] [b, c] pos) (tC G F X.K T (.chain .le .lt ca cb cc)) ∧ PT X (.Compare a [.LtE, .Lt] [b, c] pos) (tK G F X.K T (.chain .le .lt ca cb cc)) := by
  have read : ∀ {σ H ρ d} {Q : VK}, RepS X.K T H σ ρ → evC G F (.chain .le .lt ca cb cc) ρ = some d → Got X.K T H d Q → tChain (rD X.K T .le) (rD X.K T .lt) (tC G F X.K T ca) (tC G F X.K T cb) (tC G F X.K T cc) σ H Q := by
    intro σ H ρ d Q rs ev k
    simp only [evC] at ev
    cases e1 : evC G F ca ρ with
    | none => simp only [e1] at ev; cases ev
    | some x =>
      cases e2 : evC G F cb ρ with
      | none => simp only [e1, e2] at ev; cases ev
      | some y =>
        simp only [e1, e2] at ev
        cases e3 : appOp .le x y with
        | none => simp only [e3] at ev; cases ev
        | some z =>
          refine two rs e1 e2 fun v w H' s r1 r2 => ⟨x, y, z, r1, r2, e3, fun u H2 s2 r3 => ?_⟩
          cases z <;> try (simp only [e3] at ev; cases ev; done)
          case bl j =>
            refine ⟨j, rep_bl r3, ?_⟩
            cases j with
            | false =>
              simp only [e3] at ev
              cases ev
              exact k _ _ (s.trans s2) (.bl _)
            | true =>
              simp only [e3] at ev
              cases e4 : evC G F cc ρ with
              | none => simp only [e4] at ev; cases ev
              | some t =>
                simp only [e4] at ev
                refine iteT ⟨ρ, t, rs.mono (s.trans s2), e4, fun w' H4 s4 r4 => ⟨y, t, d, (r2.mono s2).mono s4, r4, ev, fun u' H5 s5 r5 => k _ _ ((s.trans s2).trans (s4.trans s5)) r5⟩⟩
  exact ⟨(pe_chain op_leD op_ltD ha hb hc (noMarks hb0 hc0)).wk fun σ H Q ⟨ρ, d, rs, ev, k⟩ => read rs ev k,
    (pt_chain op_leD op_ltD ha hb hc (noMarks hb0 hc0)).wk fun σ H Q ⟨ρ, d, rs, ev, k⟩ => read rs ev fun v H' s r => ⟨d, rep_bl r, k H' s⟩⟩
theorem and_inv {ρ : Ev} {d : D} (ev : evC G F (.and ca cb) ρ = some d) : ∃ k, evC G F ca ρ = some (.bl k) ∧ (if k = true then evC G F cb ρ else some (.bl false)) = some d := by
  simp only [evC] at ev
  split at ev
  · exact ⟨true, by assumption, ev⟩
  · exact ⟨false, by assumption, ev⟩
  · cases ev
theorem or_inv {ρ : Ev} {d : D} (ev : evC G F (.or ca cb) ρ = some d) : ∃ k, evC G F ca ρ = some (.bl k) ∧ (if k = true then some (.bl true) else evC G F cb ρ) = some d := by
  simp only [evC] at ev
  split at ev
  · exact ⟨true, by assumption, ev⟩
  · exact ⟨false, by assumption, ev⟩
  · cases ev
theorem ite_inv {ρ : Ev} {d : D} (ev : evC G F (.ite ca cb cc) ρ = some d) : ∃ k, evC G F ca ρ = some (.bl k) ∧ (if k = true then evC G F cb ρ else evC G F cc ρ) = some d := by
  simp only [evC] at ev
  split at ev
  · exact ⟨true, by assumption, ev⟩
  · exact ⟨false, by assumption, ev⟩
  · cases ev
theorem q_and {vs : List Expr} (ha : PE X a (tC G F X.K T ca)) (hb : PE X (.BoolOp .And (b :: vs) pos) (tC G F X.K T cb)) : PE X (.BoolOp .And (a :: b :: vs) pos) (tC G F X.K T (.and ca cb)) := by
  refine (pe_and ha hb).wk fun σ H Q ⟨ρ, d, rs, ev, k⟩ => ?_
  obtain ⟨j, e1, e2⟩ := and_inv ev
  refine ⟨ρ, .bl j, rs, e1, fun v H1 s1 r1 => ⟨j, rep_bl r1, ?_⟩⟩
  cases j with
  | true => exact iteT ⟨ρ, d, rs.mono s1, e2, fun v' H2 s2 r2 => k _ _ (s1.trans s2) r2⟩
  | false => cases e2; exact iteF (k _ _ s1 (.bl _))
theorem q_or {vs : List Expr} (ha : PE X a (tC G F X.K T ca)) (hb : PE X (.BoolOp .Or (b :: vs) pos) (tC G F X.K T cb)) : PE X (.BoolOp .Or (a :: b :: vs) pos) (tC G F X.K T (.or ca cb)) := by
  refine (pe_or ha hb).wk fun σ H Q ⟨ρ, d, rs, ev, k⟩ => ?_
  obtain ⟨j, e1, e2⟩ := or_inv ev
  refine ⟨ρ, .bl j, rs, e1, fun v H1 s1 r1 => ⟨j, rep_bl r1, ?_⟩⟩
  cases j with
  | true => cases e2; exact iteT (k _ _ s1 (.bl _))
  | false => exact iteF ⟨ρ, d, rs.mono s1, e2, fun v' H2 s2 r2 => k _ _ (s1.trans s2) r2⟩
theorem k_and {vs : List Expr} (ha : PT X a (tK G F X.K T ca)) (hb : PW X (.BoolOp .And (b :: vs) pos) (tK G F X.K T cb)) : PW X (.BoolOp .And (a :: b :: vs) pos) (tK G F X.K T (.and ca cb)) := by
  refine (pw_and ha hb).wk fun σ H Q ⟨ρ, d, rs, ev, k⟩ => ?_
  obtain ⟨j, e1, e2⟩ := and_inv ev
  refine ⟨ρ, j, rs, e1, fun H1 s1 => ?_⟩
  cases j with
  | true => exact iteT ⟨ρ, d, rs.mono s1, e2, fun H2 s2 => k _ (s1.trans s2)⟩
  | false => cases e2; exact iteF (k _ s1)
theorem k_or {vs : List Expr} (ha : PT X a (tK G F X.K T ca)) (hb : PW X (.BoolOp .Or (b :: vs) pos) (tK G F X.K T cb)) : PW X (.BoolOp .Or (a :: b :: vs) pos) (tK G F X.K T (.or ca cb)) := by
  refine (pw_or ha hb).wk fun σ H Q ⟨ρ, d, rs, ev, k⟩ => ?_
  obtain ⟨j, e1, e2⟩ := or_inv ev
  refine ⟨ρ, j, rs, e1, fun H1 s1 => ?_⟩
  cases j with
  | true => cases e2; exact iteT (k _ s1)
  | false => exact iteF ⟨ρ, d, rs.mono s1, e2, fun H2 s2 => k _ (s1.trans s2)⟩
theorem k_not (ha : PT X a (tK G F X.K T ca)) : PT X (.UnaryOp .Not a pos) (tK G F X.K T (.not ca)) := by
  refine (pt_not ha).wk fun σ H Q ⟨ρ, d, rs, ev, k⟩ => ?_
  simp only [evC] at ev
  split at ev
  · rename_i j e1
    cases ev
    exact ⟨ρ, j, rs, e1, fun H1 s1 => k _ s1⟩
  · cases ev
theorem q_ite (ht : PT X a (tK G F X.K T ca)) (hb : PE X b (tC G F X.K T cb)) (hc : PE X c (tC G F X.K T cc)) : PE X (.IfExp a b c pos) (tC G F X.K T (.ite ca cb cc)) := by
  refine (pe_ifExp ht hb hc).wk fun σ H Q ⟨ρ, d, rs, ev, k⟩ => ?_
  obtain ⟨j, e1, e2⟩ := ite_inv ev
  refine ⟨ρ, j, rs, e1, fun H1 s1 => ?_⟩
  cases j with
  | true => exact iteT ⟨ρ, d, rs.mono s1, e2, fun v' H2 s2 r2 => k _ _ (s1.trans s2) r2⟩
  | false => exact iteF ⟨ρ, d, rs.mono s1, e2, fun v' H2 s2 r2 => k _ _ (s1.trans s2) r2⟩
theorem k_ite (ht : PT X a (tK G F X.K T ca)) (hb : PT X b (tK G F X.K T cb)) (hc : PT X c (tK G F X.K T cc)) : PT X (.IfExp a b c pos) (tK G F X.K T (.ite ca cb cc)) := by
  refine ⟨fun pins s σ H Q I ⟨ρ, d, rs, ev, k⟩ => ?_⟩
  obtain ⟨j, e1, e2⟩ := ite_inv ev
  show wpAny _ _ (do if ← isTrue a X.env (eval a X.env) then isTrue b X.env (eval b X.env) else isTrue c X.env (eval c X.env)) _ _ s
  refine wpAny_bind (thn (ht.run pins s σ H (fun b' H1 => b' = j ∧ Same H H1) I ⟨ρ, j, rs, e1, fun H1 s1 => ⟨rfl, s1⟩⟩) fun b' s1 ⟨H1, I1, eb, sm⟩ => ?_)
  subst eb
  cases b' with
  | true => exact hb.run pins s1 σ H1 Q I1 ⟨ρ, d, rs.mono sm, e2, fun H2 s2 => k _ (sm.trans s2)⟩
  | false => exact hc.run pins s1 σ H1 Q I1 ⟨ρ, d, rs.mono sm, e2, fun H2 s2 => k _ (sm.trans s2)⟩
/-- a test that is an expression's value -/
def plainT : Expr → Bool
  | .BoolOp _ _ _ => false
  | .UnaryOp .Not _ _ => false
  | .Compare _ _ _ _ => false
  | .IfExp _ _ _ _ => false
  | _ => true
theorem k_val (hp : plainT e = true) (h : PE X e (tC G F X.K T ca)) : PT X e (tK G F X.K T ca) := by
  refine (pt_val h (fun whole => ?_)).wk fun σ H Q ⟨ρ, d, rs, ev, k⟩ => ⟨ρ, .bl d, rs, ev, fun v H1 s1 r1 => ⟨d, rep_bl r1, k _ s1⟩⟩
  cases e <;> first | rfl | cases hp | skip
  case UnaryOp op x p => cases op <;> first | rfl | cases hp
theorem q_attr {f : Str} {i : Nat} (Fx : Facts X G F T M m) (hr : recvE a = true) (hi : M.fld[i]? = some f) (ha : PE X a (tC G F X.K T ca)) : PE X (.Attribute a f pos) (tC G F X.K T (.attr ca i)) := by
  refine (pe_fld ha (base_plain hr)).wk fun σ H Q ⟨ρ, d, rs, ev, k⟩ => ?_
  simp only [evC] at ev
  split at ev
  · rename_i fs e1
    refine ⟨ρ, .ins 0 fs, rs, e1, fun v H1 s1 r1 => ?_⟩
    obtain ⟨p, dx, vs, rfl, hp, hk, hv⟩ := rep_ins r1
    obtain ⟨w, hw, rw'⟩ := hv.get ev
    refine ⟨p, T.at_ 0, dx, vs, w, rfl, hp, Fx.cls, Fx.noat f (List.mem_of_getElem? hi), look_at (by rw [hk, Fx.fld]) Fx.fnd hi hw, k _ _ s1 rw'⟩
  · cases ev
theorem cut_toS (s : List Ch) (lo hi : Option Int) : cutS (toS s) lo hi = toS (cutD s lo hi) := by
  unfold cutS cutD toS
  show (⟨((((s.map (·.val)).toArray).toList.drop _).take _).toArray⟩ : Str) = _
  have e : (⟨(s.map (·.val)).toArray⟩ : Str).length = s.length := toS_len s
  rw [e]
  simp only [List.map_take, List.map_drop]
theorem q_slice {lo hi : Option Expr} {cl ch : CO} {p2 : Pos} (ha : PE X a (tC G F X.K T ca)) (hl : PO X lo (tO G F X.K T cl)) (hh : PO X hi (tO G F X.K T ch)) :
    PE X (.Subscript a (.Slice lo hi none p2) pos) (tC G F X.K T (.slice ca cl ch)) := by
  refine (pe_slice (sl_tupA.or (sl_list.or sl_str)) ha hl hh).wk fun σ H Q ⟨ρ, d, rs, ev, k⟩ => ?_
  simp only [evC] at ev
  cases e1 : evC G F ca ρ with
  | none => simp only [e1] at ev; cases ev
  | some x =>
    cases e2 : evO G F cl ρ with
    | none => simp only [e1, e2] at ev; cases ev
    | some l =>
      cases e3 : evO G F ch ρ with
      | none => simp only [e1, e2, e3] at ev; cases ev
      | some h =>
        simp only [e1, e2, e3] at ev
        refine ⟨ρ, x, rs, e1, fun v H1 s1 r1 => ⟨ρ, l, rs.mono s1, e2, fun H2 s2 => ⟨ρ, h, rs.mono (s1.trans s2), e3, fun H3 s3 => ?_⟩⟩⟩
        have st := s1.trans (s2.trans s3)
        have r3 := r1.mono (s2.trans s3)
        cases x <;> try (exact nomatch (show (Option.none : Option D) = some d from ev))
        case str z =>
          simp only [sliceD] at ev
          cases ef : fit z.length with
          | false => simp only [ef] at ev; cases ev
          | true =>
            simp only [ef] at ev
            cases ev
            cases rep_str r3
            refine .inr (.inr ⟨toS z, rfl, by rw [toS_len]; exact fit_le ef, ?_⟩)
            rw [cut_toS]
            exact k _ _ st (.str _)
        case tup xs =>
          cases (show some (D.tup (cutD xs l h)) = some d from ev)
          obtain ⟨p, vs, rfl, hp, hv⟩ := rep_tup r3
          refine .inl ⟨p, vs, rfl, hp, fun q => ?_, fun q t ht => ?_⟩
          · have e0 : cutD xs l h = xs := by
              unfold cutD
              rw [← hv.length, q.1, q.2, List.drop_zero, Nat.sub_zero, List.take_of_length_le]
              rw [hv.length]
              exact Nat.le_refl _
            rw [e0] at k
            exact k _ _ st (.tup hp hv)
          · exact k _ _ (st.trans (same_new ht)) (.tup (SqT.of upd_same) ((hv.cut l h).mono (same_new ht)))
        case lst xs =>
          cases (show some (D.lst (cutD xs l h)) = some d from ev)
          obtain ⟨p, vs, rfl, hp, hv⟩ := rep_lst r3
          refine .inr (.inl ⟨p, vs, rfl, .inl hp, fun t ht => ?_⟩)
          exact k _ _ (st.trans (same_new ht)) (.lst (.inl upd_same) ((hv.cut l h).mono (same_new ht)))
theorem ix_inv {ρ : Ev} {d : D} (ev : evC G F (.ix ca cb) ρ = some d) : ∃ x y, evC G F ca ρ = some x ∧ evC G F cb ρ = some y ∧ ixD x y = some d := by
  simp only [evC] at ev
  cases e1 : evC G F ca ρ with
  | none => simp only [e1] at ev; cases ev
  | some x =>
    cases e2 : evC G F cb ρ with
    | none => simp only [e1, e2] at ev; cases ev
    | some y => exact ⟨x, y, rfl, rfl, by simpa only [e1, e2] using ev⟩
theorem ixD_inv {x y d : D} (h : ixD x y = some d) : (∃ xs i, x = .tup xs ∧ y = .int i ∧ L2.atI xs i = some d) ∨ (∃ xs i, x = .lst xs ∧ y = .int i ∧ L2.atI xs i = some d) ∨
    (∃ s i c, x = .str s ∧ y = .int i ∧ fit s.length = true ∧ L2.atI s i = some c ∧ d = .str [c]) ∨ ∃ ks vs k, x = .dic ks vs ∧ y = .str k ∧ lookK k ks vs = some d := by
  unfold ixD at h
  split at h
  · exact .inl ⟨_, _, rfl, rfl, h⟩
  · exact .inr (.inl ⟨_, _, rfl, rfl, h⟩)
  · rename_i s i
    cases ef : fit s.length with
    | false => simp only [ef] at h; cases h
    | true =>
      simp only [ef] at h
      cases e : L2.atI s i with
      | none => rw [e] at h; cases h
      | some c =>
        rw [e] at h
        cases h
        exact .inr (.inr (.inl ⟨_, _, c, rfl, rfl, ef, e, rfl⟩))
  · exact .inr (.inr (.inr ⟨_, _, _, rfl, rfl, h⟩))
  · cases h
theorem q_ix (Fx : Facts X G F T M m) (hb0 : argE b = true) (ha : PE X a (tC G F X.K T ca)) (hb : PE X b (tC G F X.K T cb)) : PE X (.Subscript a b pos) (tC G F X.K T (.ix ca cb)) := by
  refine ((pe_ix ix_seq ha hb (plainIx hb0)).or (pe_dget Fx.hu1 ha hb (noSl hb0))).wk fun σ H Q ⟨ρ, d, rs, ev, k⟩ => ?_
  obtain ⟨x, y, e1, e2, e3⟩ := ix_inv ev
  rcases ixD_inv e3 with ⟨xs, i, rfl, rfl, h⟩ | ⟨xs, i, rfl, rfl, h⟩ | ⟨s, i, c, rfl, rfl, hf, h, rfl⟩ | ⟨ks, vs, q, rfl, rfl, h⟩
  · refine .inl (two rs e1 e2 fun v w H' s r1 r2 => ?_)
    obtain ⟨p, vs, rfl, hp, hv⟩ := rep_tup r1
    obtain ⟨z, hz, rz⟩ := hv.atI h
    exact .inr (.inl ⟨p, vs, i, z, rfl, rep_int r2, hp, hz, k _ _ s rz⟩)
  · refine .inl (two rs e1 e2 fun v w H' s r1 r2 => ?_)
    obtain ⟨p, vs, rfl, hp, hv⟩ := rep_lst r1
    obtain ⟨z, hz, rz⟩ := hv.atI h
    exact .inl ⟨p, vs, i, z, rfl, rep_int r2, .inl hp, hz, k _ _ s rz⟩
  · refine .inl (two rs e1 e2 fun v w H' sm r1 r2 => ?_)
    refine .inr (.inr ⟨toS s, i, c.val, rep_str r1, rep_int r2, by rw [toS_len]; exact fit_le hf, ?_, k _ _ sm (.str [c])⟩)
    rw [toS_cps]
    unfold L2.atI at h ⊢
    rw [List.length_map]
    cases e : ixN s.length i with
    | none => rw [e] at h; cases h
    | some j =>
      rw [e] at h
      have h2 : s[j]? = some c := h
      show (s.map (·.val))[j]? = some c.val
      rw [List.getElem?_map, h2]
      rfl
  · refine .inr (two rs e1 e2 fun v w H' s r1 r2 => ?_)
    obtain ⟨p, kvs, rfl, hp, hk, hr⟩ := rep_dic r1
    cases rep_str r2
    obtain ⟨z, hz, rz⟩ := (lookK_ok (k := q) hk hr).1 d h
    exact ⟨p, z, rfl, by rw [← hz]; exact DGet.k (k := Sum.inr (toS q)) hp, k _ _ s rz⟩
theorem q_kget {x : Str} {j : Nat} {p : Pos} (Fx : Facts X G F T M m) (ok : okName x = true) (hg : glB X.env.scope x = true) (hj : M.tid.lookup x = some j) (hb0 : argE b = true) (hb : PE X b (tC G F X.K T cb)) :
    PE X (.Subscript (.Name x p) b pos) (tC G F X.K T (.kget j cb)) := by
  obtain ⟨q, es, nn, h1, D, h2⟩ := Fx.tab x j hj
  refine ⟨fun pins s σ H Q I ⟨ρ, d, rs, ev, k⟩ => ?_⟩
  simp only [evC] at ev
  split at ev
  · rename_i sx e1
    obtain ⟨u, v, g1, g2, g3⟩ := h2 sx d ev
    have hn := (pe_glob (X := X) (v := .ref q) (pos := p) (gl_of hg) h1 rfl (okN ok).1)
    refine subD_of PySem.F.slot_dict_getitem.lookup (noSl hb0) (thn (hn.run pins s σ H (fun y H1 => y = .ref q ∧ H1 = H) I ⟨rfl, rfl⟩) fun u1 s1 ⟨y, H1, I1, ry, ey, eH⟩ => ?_)
    subst ey eH
    cases ry
    refine thn (hb.run pins s1 σ H1 (fun z H2 => Same H1 H2 ∧ Rep X.K T H2 z (.str sx)) I1 ⟨ρ, .str sx, rs, e1, fun z H2 s2 r2 => ⟨s2, r2⟩⟩) fun u2 s2 ⟨z, H2, I2, rz, sm, rr⟩ => ?_
    refine ⟨kd_type D I2, op_item_kd D pins s2 σ H2 (.ref q) z _ u2 Q I2 rfl rz ⟨toS sx, u, v, rfl, rep_str rr, g1, g2, k _ _ sm (g3 H2)⟩⟩
  · cases ev
end
end Rp
namespace Rp
open PySem PySem.Spec PyProof.Rows L2
section
variable {X : Cx} {G : Gt} {F : Ft} {T : Cl} {M : Nm} {m n : Nat} {pos p apos : Pos} {a b c e o : Expr} {ca cb cc : C} {K : PySem.W.Frag} {es : List Expr} {cl : CL} {x : Str}
theorem q_lnil : PA X [] (tL G F X.K T .nil) := pa_nil.wk fun σ H Q ⟨ρ, ds, rs, ev, k⟩ => by
  have e : some [] = some ds := by simpa only [evL] using ev
  cases e
  exact k [] H (Same.refl H) .nil
theorem q_lcons (ha0 : argE a = true) (ha : PE X a (tC G F X.K T ca)) (hr : PA X es (tL G F X.K T cl)) : PA X (a :: es) (tL G F X.K T (.cons ca cl)) := by
  refine (pa_cons ha hr (star_plain ha0)).wk fun σ H Q ⟨ρ, ds, rs, ev, k⟩ => ?_
  simp only [evL] at ev
  cases e1 : evC G F ca ρ with
  | none => simp only [e1] at ev; cases ev
  | some x =>
    cases e2 : evL G F cl ρ with
    | none => simp only [e1, e2] at ev; cases ev
    | some xs =>
      simp only [e1, e2] at ev
      cases ev
      exact ⟨ρ, x, rs, e1, fun v H1 s1 r1 => ⟨ρ, xs, rs.mono s1, e2, fun vs H2 s2 r2 => k _ _ (s1.trans s2) (.cons (r1.mono s2) r2)⟩⟩
theorem q_lstar (ha : PE X a (tC G F X.K T ca)) (hr : PA X es (tL G F X.K T cl)) : PA X (.Starred a p :: es) (tL G F X.K T (.star ca cl)) := by
  refine (StX.pa_star ha hr rfl).wk fun σ H Q ⟨ρ, ds, rs, ev, k⟩ => ?_
  simp only [evL] at ev
  split at ev
  · rename_i xs e1
    cases e2 : evL G F cl ρ with
    | none => simp only [e2] at ev; cases ev
    | some ys =>
      simp only [e2] at ev
      cases ev
      refine ⟨ρ, .tup xs, rs, e1, fun v H1 s1 r1 => ?_⟩
      obtain ⟨q, vs, rfl, hq, hv⟩ := rep_tup r1
      exact ⟨q, vs, rfl, .inl hq, ρ, ys, rs.mono s1, e2, fun ws H2 s2 r2 => k _ _ (s1.trans s2) ((hv.mono s2).append r2)⟩
  · rename_i xs e1
    cases e2 : evL G F cl ρ with
    | none => simp only [e2] at ev; cases ev
    | some ys =>
      simp only [e2] at ev
      cases ev
      refine ⟨ρ, .lst xs, rs, e1, fun v H1 s1 r1 => ?_⟩
      obtain ⟨q, vs, rfl, hq, hv⟩ := rep_lst r1
      exact ⟨q, vs, rfl, .inr (.inl hq), ρ, ys, rs.mono s1, e2, fun ws H2 s2 r2 => k _ _ (s1.trans s2) ((hv.mono s2).append r2)⟩
  · cases ev
theorem q_onone : PO X none (tO G F X.K T .none) := po_none.wk fun σ H Q ⟨ρ, o, rs, ev, k⟩ => by
  have e : some Option.none = some o := by simpa only [evO] using ev
  cases e
  exact k H (Same.refl H)
theorem q_osome (ha : PE X a (tC G F X.K T ca)) : PO X (some a) (tO G F X.K T (.some ca)) := by
  refine (po_some ha).wk fun σ H Q ⟨ρ, o, rs, ev, k⟩ => ?_
  simp only [evO] at ev
  split at ev
  · rename_i i e1
    cases ev
    exact ⟨ρ, .int i, rs, e1, fun v H1 s1 r1 => ⟨i, rep_int r1, k _ s1⟩⟩
  · cases ev
theorem call_inv {f : Nat} {ρ : Ev} {d : D} (ev : evC G F (.call f cl) ρ = some d) : ∃ ds, evL G F cl ρ = some ds ∧ F f ds = some d := by
  simp only [evC] at ev
  cases e1 : evL G F cl ρ with
  | none => simp only [e1] at ev; cases ev
  | some ds => exact ⟨ds, rfl, by simpa only [e1] using ev⟩
theorem q_call0 {f : Nat} (Fx : Facts X G F T M m) (ok : okName x = true) (hg : glB X.env.scope x = true) (hf : M.fid.lookup x = some f) : PE X (.Call (.Name x p) [] [] pos) (tC G F X.K T (.call f .nil)) := by
  obtain ⟨q, h1, h2, h3⟩ := Fx.fn x f hf
  refine (pe_callR0 (E := E0) h3 Fx.room (gl_of hg) h1 h2 pass0 (okN ok).1).wk fun σ H Q ⟨ρ, d, rs, ev, k⟩ => ?_
  obtain ⟨ds, e1, e2⟩ := call_inv ev
  have e3 : some [] = some ds := by simpa only [evL] using e1
  cases e3
  exact ⟨[], d, .nil, e2, k⟩
theorem q_call {f : Nat} (Fx : Facts X G F T M m) (ok : okName x = true) (hg : glB X.env.scope x = true) (he : (a :: es).all argE = true) (hf : M.fid.lookup x = some f) (ha : PA X (a :: es) (tL G F X.K T cl)) :
    PE X (.Call (.Name x p) (a :: es) [] pos) (tC G F X.K T (.call f cl)) := by
  obtain ⟨q, h1, h2, h3⟩ := Fx.fn x f hf
  refine (pe_callR (E := E0) h3 Fx.room (gl_of hg) h1 h2 pass0 ha (okN ok).1 he).wk fun σ H Q ⟨ρ, d, rs, ev, k⟩ => ?_
  obtain ⟨ds, e1, e2⟩ := call_inv ev
  exact ⟨ρ, ds, rs, e1, fun vs H1 s1 r1 => ⟨ds, d, r1, e2, fun v H2 s2 r2 => k _ _ (s1.trans s2) r2⟩⟩
theorem made_ok {σ : L2.St} {H H1 : Hp} {Q : VK} {ds fs : List D} {vs : List V} (k : Got K T H (.ins 0 fs) Q) (s1 : Same H H1) (r1 : RepL K T H1 vs ds) (e : F 0 ds = some (.ins 0 fs)) :
    ∀ y dx, H1 y = Option.none → H1 dx = Option.none → dx ≠ y → spI K T (F 0) (V.ref y :: vs) (upd (upd H1 dx (.own y)) y (.ins (T.at_ 0) dx [])) (fun v H2 => v = .non ∧ Q (.ref y) H2) E0 := by
  intro y dx hy hdx hne
  have s2 : Same H1 (upd (upd H1 dx (.own y)) y (.ins (T.at_ 0) dx [])) := fun b u q => by
    rw [upd_ne (ne_of_none q hy), upd_ne (ne_of_none q hdx)]
    exact q
  refine ⟨y, dx, vs, ds, fs, rfl, upd_same, r1.mono s2, e, fun H' kp r => ⟨rfl, k _ _ (s1.trans fun b u q => ?_) r⟩⟩
  exact kp b u (s2 b u q) (ne_of_none q hy)
theorem new_inv {ρ : Ev} {d : D} (ev : evC G F (.new cl) ρ = some d) : ∃ ds, evL G F cl ρ = some ds ∧ F 0 ds = some d := by
  simp only [evC] at ev
  cases e1 : evL G F cl ρ with
  | none => simp only [e1] at ev; cases ev
  | some ds => exact ⟨ds, rfl, by simpa only [e1] using ev⟩
theorem q_new0 (Fx : Facts X G F T M m) (hF : ∀ ds d, F 0 ds = some d → ∃ fs, d = .ins 0 fs) (ok : okName x = true) (hg : glB X.env.scope x = true) (hx : x = M.cls) : PE X (.Call (.Name x p) [] [] pos) (tC G F X.K T (.new .nil)) := by
  obtain ⟨q, h1, h2, h3⟩ := Fx.mk_
  subst hx
  refine (pe_makeR0 (E := E0) h2 h3 Fx.room (gl_of hg) h1 pass0 (okN ok).1).wk fun σ H Q ⟨ρ, d, rs, ev, k⟩ => ?_
  obtain ⟨ds, e1, e2⟩ := new_inv ev
  have e3 : some [] = some ds := by simpa only [evL] using e1
  cases e3
  obtain ⟨fs, rfl⟩ := hF _ _ e2
  exact made_ok (σ := σ) k (Same.refl H) .nil e2
theorem q_new (Fx : Facts X G F T M m) (hF : ∀ ds d, F 0 ds = some d → ∃ fs, d = .ins 0 fs) (ok : okName x = true) (hg : glB X.env.scope x = true) (he : (a :: es).all argE = true) (hx : x = M.cls) (ha : PA X (a :: es) (tL G F X.K T cl)) :
    PE X (.Call (.Name x p) (a :: es) [] pos) (tC G F X.K T (.new cl)) := by
  obtain ⟨q, h1, h2, h3⟩ := Fx.mk_
  subst hx
  obtain ⟨g1, g2⟩ : argE a = true ∧ es.all argE = true := by simpa using he
  refine (StX.pe_makeR (E := E0) h2 h3 Fx.room (gl_of hg) h1 pass0 ha (okN ok).1 (star_plain g1) (stars_any g2)).wk fun σ H Q ⟨ρ, d, rs, ev, k⟩ => ?_
  obtain ⟨ds, e1, e2⟩ := new_inv ev
  obtain ⟨fs, rfl⟩ := hF _ _ e2
  exact ⟨ρ, ds, rs, e1, fun vs H1 s1 r1 => made_ok (σ := σ) k s1 r1 e2⟩
theorem meth_inv {f : Nat} {ρ : Ev} {d : D} (ev : evC G F (.meth f ca cl) ρ = some d) : ∃ fs ds, evC G F ca ρ = some (.ins 0 fs) ∧ evL G F cl ρ = some ds ∧ F f (.ins 0 fs :: ds) = some d := by
  simp only [evC] at ev
  split at ev
  · rename_i fs e1
    cases e2 : evL G F cl ρ with
    | none => simp only [e2] at ev; cases ev
    | some ds => exact ⟨fs, ds, e1, rfl, by simpa only [e2] using ev⟩
  · cases ev
theorem q_meth0 {f : Nat} (Fx : Facts X G F T M m) (hr : recvE o = true) (hl : apos.endLine = pos.line) (hf : M.mid.lookup x = some f) (ho : PE X o (tC G F X.K T ca)) :
    PE X (.Call (.Attribute o x apos) [] [] pos) (tC G F X.K T (.meth f ca .nil)) := by
  obtain ⟨q, h1, h2⟩ := Fx.mt x f hf
  refine (pe_methR0 (E := E0) hr hl ho Fx.cls h1 h2 Fx.room pass0).wk fun σ H Q ⟨ρ, d, rs, ev, k⟩ => ?_
  obtain ⟨fs, ds, e1, e2, e3⟩ := meth_inv ev
  have e4 : some [] = some ds := by simpa only [evL] using e2
  cases e4
  refine ⟨ρ, .ins 0 fs, rs, e1, fun v H1 s1 r1 => ?_⟩
  obtain ⟨y, dx, vs, rfl, hy, hk, hv⟩ := rep_ins r1
  exact ⟨y, dx, vs, rfl, hy, look_not (by rw [hk, Fx.fld]) (Fx.nometh _ (lookup_mem' hf)), [.ins 0 fs], d, .cons r1 .nil, e3, fun w H2 s2 r2 => k _ _ (s1.trans s2) r2⟩
theorem q_meth {f : Nat} (Fx : Facts X G F T M m) (hr : recvE o = true) (hl : apos.endLine = pos.line) (hn : (a :: es).length < 30) (he : (a :: es).all argE = true) (hf : M.mid.lookup x = some f) (ho : PE X o (tC G F X.K T ca)) (ha : PA X (a :: es) (tL G F X.K T cl)) :
    PE X (.Call (.Attribute o x apos) (a :: es) [] pos) (tC G F X.K T (.meth f ca cl)) := by
  obtain ⟨q, h1, h2⟩ := Fx.mt x f hf
  refine (pe_methR (E := E0) hr hl hn ho Fx.cls h1 h2 Fx.room pass0 ha he).wk fun σ H Q ⟨ρ, d, rs, ev, k⟩ => ?_
  obtain ⟨fs, ds, e1, e2, e3⟩ := meth_inv ev
  refine ⟨ρ, .ins 0 fs, rs, e1, fun v H1 s1 r1 => ?_⟩
  obtain ⟨y, dx, vs, rfl, hy, hk, hv⟩ := rep_ins r1
  refine ⟨y, dx, vs, rfl, hy, look_not (by rw [hk, Fx.fld]) (Fx.nometh _ (lookup_mem' hf)), ρ, ds, rs.mono s1, e2, fun ws H2 s2 r2 => ⟨.ins 0 fs :: ds, d, .cons (r1.mono s2) r2, e3, fun w H3 s3 r3 => k _ _ (s1.trans (s2.trans s3)) r3⟩⟩
theorem bls_ok {H : Hp} : ∀ {vs : List V} {xs : List D} {bs : List Bool}, RepL K T H vs xs → blsOf xs = some bs → vs = bs.map V.bl
  | [], [], bs, _, e => by
    cases (show some [] = some bs from e)
    rfl
  | v :: vs, d :: xs, bs, .cons r1 r2, e => by
    cases d <;> try (exact nomatch (show (Option.none : Option (List Bool)) = some bs from e))
    case bl k =>
      cases e2 : blsOf xs with
      | none => simp only [blsOf, e2] at e; cases e
      | some cs =>
        simp only [blsOf, e2] at e
        cases e
        rw [rep_bl r1, bls_ok r2 e2]
        rfl
theorem strs_ok {H : Hp} : ∀ {vs : List V} {xs : List D} {ss : List (List Ch)}, RepL K T H vs xs → strsOf xs = some ss → vs = (ss.map toS).map V.str
  | [], [], ss, _, e => by
    cases (show some [] = some ss from e)
    rfl
  | v :: vs, d :: xs, ss, .cons r1 r2, e => by
    cases d <;> try (exact nomatch (show (Option.none : Option (List (List Ch))) = some ss from e))
    case str k =>
      cases e2 : strsOf xs with
      | none => simp only [strsOf, e2] at e; cases e
      | some cs =>
        simp only [strsOf, e2] at e
        cases e
        rw [rep_str r1, strs_ok r2 e2]
        rfl
/-- one argument, then what is asked of its datum -/
theorem one1 {σ : L2.St} {H : Hp} {ρ : Ev} {R : List V → Hp → Prop} {x : D} (rs : RepS K T H σ ρ) (ea : evC G F ca ρ = some x) (h : ∀ v H', Same H H' → Rep K T H' v x → R [v] H') : tCons (tC G F K T ca) tNil σ H R :=
  ⟨ρ, x, rs, ea, fun v H1 s1 r1 => h v H1 s1 r1⟩
theorem f1_inv {f : Fn1} {ρ : Ev} {d : D} (ev : evC G F (.f1 f ca) ρ = some d) : ∃ x, evC G F ca ρ = some x ∧ app1 f x = some d := by
  simp only [evC] at ev
  cases e1 : evC G F ca ρ with
  | none => simp only [e1] at ev; cases ev
  | some x => exact ⟨x, rfl, by simpa only [e1] using ev⟩
theorem pairs_ok {H : Hp} : ∀ {vs : List V} {xs : List D} {ps : List (List Ch × D)}, RepL K T H vs xs → pairsOf xs = some ps → ∃ (qs : List Addr) (kvs : List (Key × V)), vs = qs.map V.ref ∧ Paired (fun q (kv : Key × V) => SqT K H q [kV kv.1, kv.2]) qs kvs ∧
      kvs.map (·.1) = ps.map (fun p => (Sum.inr (toS p.1) : Key)) ∧ RepL K T H (kvs.map (·.2)) (ps.map (·.2))
  | [], [], ps, _, e => by
    cases (show some [] = some ps from e)
    exact ⟨[], [], rfl, .nil, rfl, .nil⟩
  | v :: vs, d :: xs, ps, .cons r1 r2, e => by
    unfold pairsOf at e
    split at e
    · rename_i h; cases h
    · rename_i k z r h
      cases h
      cases e2 : pairsOf xs with
      | none => simp only [e2] at e; cases e
      | some cs =>
        simp only [e2] at e
        cases e
        obtain ⟨qs, kvs, rfl, h1, h2, h3⟩ := pairs_ok r2 e2
        obtain ⟨q, ws, rfl, hq, hw⟩ := rep_tup r1
        cases hw with
        | @cons w1 wr _ _ hw1 hw2 =>
          cases hw2 with
          | @cons w2 wr2 _ _ hz hw3 =>
            cases hw3
            cases rep_str hw1
            exact ⟨q :: qs, (Sum.inr (toS k), w2) :: kvs, rfl, .cons hq h1, by simp [h2], .cons hz h3⟩
    · cases e
theorem hasK_ok {k : List Ch} : ∀ {kvs : List (Key × V)} {ks : List (List Ch)}, kvs.map (·.1) = ks.map (fun k => (Sum.inr (toS k) : Key)) → (kvs.any fun kv => decide (kv.1 = (Sum.inr (toS k) : Key))) = hasK k ks
  | [], [], _ => rfl
  | [], _ :: _, h => by simp at h
  | _ :: _, [], h => by simp at h
  | (q, v) :: r, x :: ks, h => by
    have h3 : q :: r.map (·.1) = Sum.inr (toS x) :: ks.map (fun k => (Sum.inr (toS k) : Key)) := h
    injection h3 with h4 h5
    rw [List.any_cons, hasK_ok h5]
    show (decide (q = _) || hasK k ks) = (beqS x k || hasK k ks)
    rw [h4, key_rr, beqS_dec]
theorem putV_ok {H : Hp} {k : List Ch} {v : V} {d : D} (rv : Rep K T H v d) : ∀ {kvs : List (Key × V)} {ks : List (List Ch)} {ds : List D}, kvs.map (·.1) = ks.map (fun k => (Sum.inr (toS k) : Key)) → RepL K T H (kvs.map (·.2)) ds →
    RepL K T H ((kvs.map fun kv => if kv.1 = (Sum.inr (toS k) : Key) then (kv.1, v) else kv).map (·.2)) (putV k d ks ds)
  | [], [], ds, _, r => by
    have r' : RepL K T H [] ds := r
    cases r'
    exact .nil
  | [], _ :: _, _, h, _ => by simp at h
  | _ :: _, [], _, h, _ => by simp at h
  | (q, w) :: r, x :: ks, ds, h, rr => by
    have h3 : q :: r.map (·.1) = Sum.inr (toS x) :: ks.map (fun k => (Sum.inr (toS k) : Key)) := h
    injection h3 with h4 h5
    have rr' : RepL K T H (w :: r.map (·.2)) ds := rr
    cases rr' with
    | @cons _ _ d0 ds0 h6 h7 =>
      have ih := putV_ok rv (k := k) h5 h7
      show RepL K T H ((if q = (Sum.inr (toS k) : Key) then (q, v) else (q, w)).2 :: _) ((match beqS x k with | true => d | false => d0) :: putV k d ks ds0)
      refine .cons ?_ ih
      have hd : decide (q = (Sum.inr (toS k) : Key)) = beqS x k := by rw [h4, key_rr, beqS_dec]
      cases e : beqS x k with
      | true =>
        rw [e] at hd
        rw [if_pos (of_decide_eq_true hd)]
        exact rv
      | false =>
        rw [e] at hd
        rw [if_neg (of_decide_eq_false hd)]
        exact h6
theorem putKD_ok {H : Hp} {k : List Ch} {v : V} {d : D} (rv : Rep K T H v d) {kvs : List (Key × V)} {ks : List (List Ch)} {ds : List D} (h : kvs.map (·.1) = ks.map (fun k => (Sum.inr (toS k) : Key))) (r : RepL K T H (kvs.map (·.2)) ds) :
    (putK kvs (Sum.inr (toS k)) v).map (·.1) = (putKD k d ks ds).1.map (fun k => (Sum.inr (toS k) : Key)) ∧ RepL K T H ((putK kvs (Sum.inr (toS k)) v).map (·.2)) (putKD k d ks ds).2 := by
  unfold putK putKD
  rw [hasK_ok (k := k) h]
  cases hasK k ks with
  | true =>
    rw [if_pos rfl]
    refine ⟨?_, putV_ok rv h r⟩
    rw [← h, List.map_map]
    refine List.map_congr_left fun kv _ => ?_
    show (if kv.1 = _ then (kv.1, v) else kv).1 = kv.1
    split <;> rfl
  | false =>
    rw [if_neg (by decide)]
    refine ⟨by simp [h], ?_⟩
    rw [List.map_append]
    exact r.append (.cons rv .nil)
theorem putAll_ok {H : Hp} : ∀ {more : List (Key × V)} {ps : List (List Ch × D)} {kvs : List (Key × V)} {a : List (List Ch) × List D}, more.map (·.1) = ps.map (fun p => (Sum.inr (toS p.1) : Key)) → RepL K T H (more.map (·.2)) (ps.map (·.2)) →
    kvs.map (·.1) = a.1.map (fun k => (Sum.inr (toS k) : Key)) → RepL K T H (kvs.map (·.2)) a.2 →
    (mergeK kvs more).map (·.1) = (putAllD ps a).1.map (fun k => (Sum.inr (toS k) : Key)) ∧ RepL K T H ((mergeK kvs more).map (·.2)) (putAllD ps a).2
  | [], [], _, _, _, _, h, r => ⟨h, r⟩
  | [], _ :: _, _, _, h, _, _, _ => by simp at h
  | _ :: _, [], _, _, h, _, _, _ => by simp at h
  | (q, w) :: more, (k, d) :: ps, kvs, (ks, ds), h, r, h1, r1 => by
    have h3 : q :: more.map (·.1) = Sum.inr (toS k) :: ps.map (fun p => (Sum.inr (toS p.1) : Key)) := h
    injection h3 with h4 h5
    have r' : RepL K T H (w :: more.map (·.2)) (d :: ps.map (·.2)) := r
    cases r' with
    | cons r2 r3 =>
      subst h4
      obtain ⟨g1, g2⟩ := putKD_ok r2 (k := k) h1 r1
      exact putAll_ok (more := more) (ps := ps) (kvs := putK kvs (Sum.inr (toS k)) w) (a := putKD k d ks ds) h5 r3 g1 g2
end
end Rp
namespace Rp
open PySem PySem.Spec PyProof.Rows L2
section
variable {X : Cx} {G : Gt} {F : Ft} {T : Cl} {M : Nm} {m n : Nat} {pos p apos cpos : Pos} {a b c e o : Expr} {ca cb cc : C} {K : PySem.W.Frag} {es : List Expr} {cl : CL} {x : Str}
theorem q_len (Fx : Facts X G F T M m) (hg : glB X.env.scope "len" = true) (ha0 : argE a = true) (ha : PE X a (tC G F X.K T ca)) : PE X (.Call (.Name "len" p) [a] [] pos) (tC G F X.K T (.f1 .len ca)) := by
  refine (pe_callB call_len (gl_of hg) (Fx.blt _ (by decide)) PySem.boot_len (pa_cons ha pa_nil (star_plain ha0)) (he := star_plain ha0)).wk fun σ H Q ⟨ρ, d, rs, ev, k⟩ => ?_
  obtain ⟨x, e1, e2⟩ := f1_inv ev
  refine one1 rs e1 fun v H1 s1 r1 => ?_
  cases x <;> try (exact nomatch (show (Option.none : Option D) = some d from e2))
  case str s =>
    cases ef : fit s.length with
    | false => simp only [app1, ef] at e2; cases e2
    | true =>
      simp only [app1, ef] at e2
      cases e2
      cases rep_str r1
      exact ⟨_, s.length, rfl, ⟨by rw [toS_len]; exact fit_le ef, by rw [toS_len]⟩, k _ _ s1 (.int _)⟩
  case tup xs =>
    cases (show some (D.int xs.length) = some d from e2)
    obtain ⟨q, vs, rfl, hq, hv⟩ := rep_tup r1
    exact ⟨_, xs.length, rfl, .inr ⟨vs, hq, hv.length.symm⟩, k _ _ s1 (.int _)⟩
  case lst xs =>
    cases (show some (D.int xs.length) = some d from e2)
    obtain ⟨q, vs, rfl, hq, hv⟩ := rep_lst r1
    exact ⟨_, xs.length, rfl, .inl ⟨vs, .inl hq, hv.length.symm⟩, k _ _ s1 (.int _)⟩
theorem q_any (Fx : Facts X G F T M m) (hg : glB X.env.scope "any" = true) (ha0 : argE a = true) (ha : PE X a (tC G F X.K T ca)) : PE X (.Call (.Name "any" p) [a] [] pos) (tC G F X.K T (.f1 .any ca)) := by
  refine (pe_callB (cr_any Fx.calm) (gl_of hg) (Fx.blt _ (by decide)) PyProof.Rows.boot_any (pa_cons ha pa_nil (star_plain ha0)) (he := star_plain ha0)).wk fun σ H Q ⟨ρ, d, rs, ev, k⟩ => ?_
  obtain ⟨x, e1, e2⟩ := f1_inv ev
  refine one1 rs e1 fun v H1 s1 r1 => ?_
  cases x <;> try (exact nomatch (show (Option.none : Option D) = some d from e2))
  case lst xs =>
    cases e3 : blsOf xs with
    | none => simp only [app1, e3] at e2; cases e2
    | some bs =>
      simp only [app1, e3] at e2
      cases e2
      obtain ⟨q, vs, rfl, hq, hv⟩ := rep_lst r1
      have e4 := bls_ok hv e3
      subst e4
      exact ⟨q, bs, rfl, .inl hq, k _ _ s1 (.bl _)⟩
theorem q_all (Fx : Facts X G F T M m) (hg : glB X.env.scope "all" = true) (ha0 : argE a = true) (ha : PE X a (tC G F X.K T ca)) : PE X (.Call (.Name "all" p) [a] [] pos) (tC G F X.K T (.f1 .all ca)) := by
  refine (pe_callB (cr_all Fx.calm) (gl_of hg) (Fx.blt _ (by decide)) PyProof.Rows.boot_all (pa_cons ha pa_nil (star_plain ha0)) (he := star_plain ha0)).wk fun σ H Q ⟨ρ, d, rs, ev, k⟩ => ?_
  obtain ⟨x, e1, e2⟩ := f1_inv ev
  refine one1 rs e1 fun v H1 s1 r1 => ?_
  cases x <;> try (exact nomatch (show (Option.none : Option D) = some d from e2))
  case lst xs =>
    cases e3 : blsOf xs with
    | none => simp only [app1, e3] at e2; cases e2
    | some bs =>
      simp only [app1, e3] at e2
      cases e2
      obtain ⟨q, vs, rfl, hq, hv⟩ := rep_lst r1
      have e4 := bls_ok hv e3
      subst e4
      exact ⟨q, bs, rfl, .inl hq, k _ _ s1 (.bl _)⟩
theorem q_list (Fx : Facts X G F T M m) (hg : glB X.env.scope "list" = true) (ha0 : argE a = true) (ha : PE X a (tC G F X.K T ca)) : PE X (.Call (.Name "list" p) [a] [] pos) (tC G F X.K T (.f1 .list ca)) := by
  refine (pe_callTy call_list_of (gl_of hg) (Fx.blt _ (by decide)) PyProof.Rows.boot_list (pa_cons ha pa_nil (star_plain ha0)) (he := star_plain ha0)).wk fun σ H Q ⟨ρ, d, rs, ev, k⟩ => ?_
  obtain ⟨x, e1, e2⟩ := f1_inv ev
  refine one1 rs e1 fun v H1 s1 r1 => ?_
  cases x <;> try (exact nomatch (show (Option.none : Option D) = some d from e2))
  case tup xs =>
    cases (show some (D.lst xs) = some d from e2)
    obtain ⟨q, vs, rfl, hq, hv⟩ := rep_tup r1
    exact ⟨q, vs, rfl, .inr hq, fun t ht => k _ _ (s1.trans (same_new ht)) (.lst (.inl upd_same) (hv.mono (same_new ht)))⟩
  case lst xs =>
    cases (show some (D.lst xs) = some d from e2)
    obtain ⟨q, vs, rfl, hq, hv⟩ := rep_lst r1
    exact ⟨q, vs, rfl, .inl (.inl hq), fun t ht => k _ _ (s1.trans (same_new ht)) (.lst (.inl upd_same) (hv.mono (same_new ht)))⟩
theorem q_dict (Fx : Facts X G F T M m) (hg : glB X.env.scope "dict" = true) (ha0 : argE a = true) (ha : PE X a (tC G F X.K T ca)) : PE X (.Call (.Name "dict" p) [a] [] pos) (tC G F X.K T (.f1 .dict ca)) := by
  refine (pe_callTy (call_dictP Fx.calm) (gl_of hg) (Fx.blt _ (by decide)) PyProof.Rows.boot_dict (pa_cons ha pa_nil (star_plain ha0)) (he := star_plain ha0)).wk fun σ H Q ⟨ρ, d, rs, ev, k⟩ => ?_
  obtain ⟨x, e1, e2⟩ := f1_inv ev
  refine one1 rs e1 fun v H1 s1 r1 => ?_
  cases x <;> try (exact nomatch (show (Option.none : Option D) = some d from e2))
  case lst xs =>
    cases e3 : pairsOf xs with
    | none => simp only [app1, e3] at e2; cases e2
    | some ps =>
      simp only [app1, e3] at e2
      cases e2
      obtain ⟨q, vs, rfl, hq, hv⟩ := rep_lst r1
      obtain ⟨qs, kvs, rfl, h1, h2, h3⟩ := pairs_ok hv e3
      refine ⟨q, qs, kvs, rfl, .inl hq, h1, fun t ht => ?_⟩
      obtain ⟨g1, g2⟩ := putAll_ok (kvs := []) (a := ([], [])) h2 h3 rfl .nil
      exact k _ _ (s1.trans (same_new ht)) (.dic upd_same g1 (g2.mono (same_new ht)))
theorem q_isi {t : String} {f : Fn1} {tp : Pos} (Fx : Facts X G F T M m) (hg : glB X.env.scope "isinstance" = true) (hgt : glB X.env.scope (t : Str) = true) (ok : okName (t : Str) = true) (hn : (t : Str) ≠ "__name__") (hm : X.mg (t : Str) = none) (hb : bootBuiltins (t : Str) = some (.type t)) (ha0 : argE a = true)
    (hf : ∀ (H : Hp) (v : V) (x d : D), Rep X.K T H v x → app1 f x = some d → ∃ (ty : Value) (k : Bool), d = .bl k ∧ TyX X.K H v ty ∧ PySem.W.kitOne X.K ty (.type t) = some k) (ha : PE X a (tC G F X.K T ca)) :
    PE X (.Call (.Name "isinstance" p) [a, .Name (t : Str) tp] [] pos) (tC G F X.K T (.f1 f ca)) := by
  have h2 : PE X (.Name (t : Str) tp) (L2.tC (.ty t)) := pe_bltn (gl_of hgt) hm hb rfl hn (okN ok).1
  refine (pe_callB call_isi (gl_of hg) (Fx.blt _ (by decide)) PyProof.Rows.boot_isinstance (pa_cons ha (pa_cons h2 pa_nil rfl) (star_plain ha0)) (he := star_plain ha0) (hpl := rfl)).wk fun σ H Q ⟨ρ, d, rs, ev, k⟩ => ?_
  obtain ⟨x, e1, e2⟩ := f1_inv ev
  refine ⟨ρ, x, rs, e1, fun v H1 s1 r1 => ?_⟩
  obtain ⟨ty, j, rfl, h3, h4⟩ := hf H1 v x d r1 e2
  exact ⟨v, .ty t, ty, .type t, j, rfl, .ty t, h3, h4, k _ _ s1 (.bl _)⟩
theorem isi_str (H : Hp) (v : V) (x d : D) (r : Rep K T H v x) (h : app1 .isStr x = some d) : ∃ (ty : Value) (k : Bool), d = .bl k ∧ TyX K H v ty ∧ PySem.W.kitOne K ty (.type "str") = some k := by
  cases x <;> try (exact nomatch (show (Option.none : Option D) = some d from h))
  case str s =>
    cases (show some (D.bl true) = some d from h)
    cases rep_str r
    exact ⟨.type "str", true, rfl, .base (.str _), kit_ty (by decide +kernel)⟩
theorem isi_int (H : Hp) (v : V) (x d : D) (r : Rep K T H v x) (h : app1 .isInt x = some d) : ∃ (ty : Value) (k : Bool), d = .bl k ∧ TyX K H v ty ∧ PySem.W.kitOne K ty (.type "int") = some k := by
  cases x <;> try (exact nomatch (show (Option.none : Option D) = some d from h))
  case int s =>
    cases (show some (D.bl true) = some d from h)
    cases rep_int r
    exact ⟨.type "int", true, rfl, .base (.int _), kit_ty (by decide +kernel)⟩
theorem isi_bool (H : Hp) (v : V) (x d : D) (r : Rep K T H v x) (h : app1 .isBool x = some d) : ∃ (ty : Value) (k : Bool), d = .bl k ∧ TyX K H v ty ∧ PySem.W.kitOne K ty (.type "bool") = some k := by
  cases x <;> try (exact nomatch (show (Option.none : Option D) = some d from h))
  case int s =>
    cases (show some (D.bl false) = some d from h)
    cases rep_int r
    exact ⟨.type "int", false, rfl, .base (.int _), kit_ty (by decide +kernel)⟩
theorem dget_inv {ρ : Ev} {d : D} (ev : evC G F (.dget ca cb cc) ρ = some d) : ∃ ks vs x z, evC G F ca ρ = some (.dic ks vs) ∧ evC G F cb ρ = some (.str x) ∧ evC G F cc ρ = some z ∧ (lookK x ks vs).getD z = d := by
  simp only [evC] at ev
  split at ev
  · rename_i ks vs e1
    split at ev
    · rename_i x e2
      cases e3 : evC G F cc ρ with
      | none => simp only [e3] at ev; cases ev
      | some z =>
        simp only [e3] at ev
        refine ⟨ks, vs, x, z, e1, e2, rfl, ?_⟩
        split at ev
        · rename_i r e4
          cases ev
          rw [e4]; rfl
        · rename_i e4
          cases ev
          rw [e4]; rfl
    · cases ev
  · cases ev
theorem q_dget1 (Fx : Facts X G F T M m) (hr : recvE a = true) (hb0 : argE b = true) (hl : apos.endLine = cpos.line) (ha : PE X a (tC G F X.K T ca)) (hb : PE X b (tC G F X.K T cb)) :
    PE X (.Call (.Attribute a "get" apos) [b] [] cpos) (tC G F X.K T (.dget ca cb (.cst .non))) := by
  have h0 : starEach [b] X.env = [(false, eval b X.env)] := star_plain hb0
  have m1 : M1 X a "get" apos b cpos := ⟨base_plain hr, by rw [h0]; rfl, by simpa using hl, by rw [h0]; rfl⟩
  refine (pe_dget1 Fx.hu1 ha hb m1).wk fun σ H Q ⟨ρ, d, rs, ev, k⟩ => ?_
  obtain ⟨ks, vs, x, z, e1, e2, e3, e4⟩ := dget_inv ev
  have ez : some D.non = some z := by simpa only [evC] using e3
  cases ez
  refine ⟨ρ, .dic ks vs, rs, e1, fun v H1 s1 r1 => ?_⟩
  obtain ⟨q, kvs, rfl, hq, hk, hv⟩ := rep_dic r1
  refine ⟨q, rfl, .inl ⟨kvs, .inl hq⟩, ρ, .str x, rs.mono s1, e2, fun w H2 s2 r2 => ?_⟩
  cases rep_str r2
  refine ⟨valV kvs (Sum.inr (toS x)), DGet.k (k := Sum.inr (toS x)) (s2 _ _ hq), ?_⟩
  obtain ⟨i1, i2⟩ := lookK_ok (k := x) hk (hv.mono s2)
  cases e5 : lookK x ks vs with
  | none =>
    rw [i2 e5]
    rw [e5] at e4
    subst e4
    exact k _ _ (s1.trans s2) .non
  | some r =>
    obtain ⟨u, g1, g2⟩ := i1 r e5
    rw [g1]
    rw [e5] at e4
    subst e4
    exact k _ _ (s1.trans s2) g2
theorem q_dget2 (Fx : Facts X G F T M m) (hr : recvE a = true) (hb0 : argE b = true) (hc0 : argE c = true) (hl : apos.endLine = cpos.line) (ha : PE X a (tC G F X.K T ca)) (hb : PE X b (tC G F X.K T cb)) (hc : PE X c (tC G F X.K T cc)) :
    PE X (.Call (.Attribute a "get" apos) [b, c] [] cpos) (tC G F X.K T (.dget ca cb cc)) := by
  have h0 : starEach [b, c] X.env = [(false, eval b X.env), (false, eval c X.env)] := by
    rw [star_plain hb0, star_plain hc0]
    rfl
  have m2 : M2 X a "get" apos b c cpos := ⟨base_plain hr, by rw [h0]; rfl, by simpa using hl, by rw [h0]; rfl⟩
  refine (pe_dget2 Fx.hu1 ha hb hc m2).wk fun σ H Q ⟨ρ, d, rs, ev, k⟩ => ?_
  obtain ⟨ks, vs, x, z, e1, e2, e3, e4⟩ := dget_inv ev
  refine ⟨ρ, .dic ks vs, rs, e1, fun v H1 s1 r1 => ?_⟩
  obtain ⟨q, kvs, rfl, hq, hk, hv⟩ := rep_dic r1
  refine ⟨q, rfl, .inl ⟨kvs, .inl hq⟩, ρ, .str x, rs.mono s1, e2, fun w H2 s2 r2 => ⟨ρ, z, (rs.mono s1).mono s2, e3, fun u H3 s3 r3 => ?_⟩⟩
  cases rep_str r2
  refine ⟨valV kvs (Sum.inr (toS x)), DGet.k (k := Sum.inr (toS x)) (s3 _ _ (s2 _ _ hq)), ?_⟩
  obtain ⟨i1, i2⟩ := lookK_ok (k := x) hk ((hv.mono s2).mono s3)
  cases e5 : lookK x ks vs with
  | none =>
    rw [i2 e5]
    rw [e5] at e4
    subst e4
    exact k _ _ (s1.trans (s2.trans s3)) r3
  | some r =>
    obtain ⟨u, g1, g2⟩ := i1 r e5
    rw [g1]
    rw [e5] at e4
    subst e4
    exact k _ _ (s1.trans (s2.trans s3)) g2
theorem strC_ok {s : List Ch} (h : strC e = some s) : ∃ j q, e = .Constant (.str (toS s)) j q := by
  unfold strC at h
  split at h
  · rename_i z j q
    rw [chOf_toS h]
    exact ⟨j, q, rfl⟩
  · cases h
def pairT (k v : List Ch) : TE × TE := (L2.tC (.str (toS k)), L2.tC (.str (toS v)))
def pairKV (k v : List Ch) : Key × V := (Sum.inr (toS k), .str (toS v))
theorem pps_of : ∀ {ks : List (Option Expr)} {vs : List Expr} {as bs : List (List Ch)}, strKs ks = some as → strCs vs = some bs → as.length = bs.length → PPs X pos ks vs (List.zipWith pairT as bs)
  | [], [], as, bs, h1, h2, hl => by
    cases (show some [] = some as from h1)
    cases (show some [] = some bs from h2)
    exact pps_nil
  | [], v :: vs, as, bs, h1, h2, hl => by
    cases (show some [] = some as from h1)
    unfold strCs at h2
    split at h2
    · cases h2
      simp at hl
    · cases h2
  | some k :: ks, [], as, bs, h1, h2, hl => by
    cases (show some [] = some bs from h2)
    unfold strKs at h1
    split at h1
    · cases h1
      simp at hl
    · cases h1
  | some k :: ks, v :: vs, as, bs, h1, h2, hl => by
    unfold strKs at h1
    split at h1
    · rename_i a1 as1 q1 q2
      cases h1
      unfold strCs at h2
      split at h2
      · rename_i b1 bs1 q3 q4
        cases h2
        obtain ⟨j1, p1, rfl⟩ := strC_ok q1
        obtain ⟨j2, p2, rfl⟩ := strC_ok q3
        exact pps_cons pe_str pe_str (pps_of q2 q4 (by simpa using hl))
      · cases h2
    · cases h1
  | none :: ks, _, as, bs, h1, _, _ => by cases (show (none : Option (List (List Ch))) = some as from h1)
theorem pairs_const {σ : L2.St} {H : Hp} {Q : List (V × V) → Hp → Prop} : ∀ {as bs : List (List Ch)}, Q ((List.zipWith pairKV as bs).map fun kv => (kV kv.1, kv.2)) H → tPairs (List.zipWith pairT as bs) σ H Q
  | [], _, h => h
  | _ :: _, [], h => h
  | x :: as, y :: bs, h => pairs_const (as := as) (bs := bs) h
theorem strKs_some : ∀ {ks : List (Option Expr)} {as : List (List Ch)}, strKs ks = some as → ks.all (·.isSome) = true ∧ ks.length = as.length
  | [], as, h => by
    cases (show some [] = some as from h)
    exact ⟨rfl, rfl⟩
  | some k :: ks, as, h => by
    unfold strKs at h
    split at h
    · rename_i a1 as1 q1 q2
      cases h
      obtain ⟨i1, i2⟩ := strKs_some q2
      exact ⟨by rw [List.all_cons, i1]; rfl, by simp [i2]⟩
    · cases h
  | none :: ks, as, h => by cases (show (none : Option (List (List Ch))) = some as from h)
theorem strCs_len : ∀ {ks : List Expr} {as : List (List Ch)}, strCs ks = some as → ks.length = as.length
  | [], as, h => by
    cases (show some [] = some as from h)
    rfl
  | k :: ks, as, h => by
    unfold strCs at h
    split at h
    · rename_i a1 as1 q1 q2
      cases h
      simp [strCs_len q2]
    · cases h
theorem zip_keys : ∀ {as bs : List (List Ch)}, as.length = bs.length → (List.zipWith pairKV as bs).map (·.1) = as.map (fun k => (Sum.inr (toS k) : Key)) ∧ (List.zipWith pairKV as bs).map (·.2) = bs.map fun v => V.str (toS v)
  | [], [], _ => ⟨rfl, rfl⟩
  | [], _ :: _, h => by simp at h
  | _ :: _, [], h => by simp at h
  | x :: as, y :: bs, h => by
    obtain ⟨i1, i2⟩ := zip_keys (as := as) (bs := bs) (by simpa using h)
    refine ⟨?_, ?_⟩
    · show Sum.inr (toS x) :: _ = _
      rw [i1]; rfl
    · show V.str (toS y) :: _ = _
      rw [i2]; rfl
theorem rep_strs {H : Hp} : ∀ (bs : List (List Ch)), RepL K T H (bs.map fun v => V.str (toS v)) (bs.map D.str)
  | [] => .nil
  | b :: bs => .cons (.str b) (rep_strs bs)
theorem merge_new : ∀ {more kvs : List (Key × V)}, ((kvs ++ more).map (·.1)).Nodup → mergeK kvs more = kvs ++ more
  | [], kvs, _ => by simp [mergeK]
  | (k, v) :: more, kvs, h => by
    have h0 : valV kvs k = none := by
      unfold valV
      rw [List.find?_eq_none.mpr]
      · rfl
      · intro q hq hd
        have e : q.1 = k := of_decide_eq_true hd
        rw [List.map_append, List.nodup_append] at h
        exact h.2.2 q.1 (List.mem_map.mpr ⟨q, hq, rfl⟩) k (by simp) e
    have h1 : mergeK kvs ((k, v) :: more) = mergeK (putK kvs k v) more := rfl
    rw [h1, putK_new v h0, merge_new (by simpa using h)]
    simp
theorem q_cdic {ks : List (Option Expr)} {vs : List Expr} {as bs : List (List Ch)} (h1 : strKs ks = some as) (h2 : strCs vs = some bs) (hl : as.length = bs.length) (h15 : as.length ≤ 15) (h0 : as.length ≠ 0) (hnd : as.Nodup) :
    PE X (.Dict ks vs pos) (tC G F X.K T (.cdic as bs)) := by
  obtain ⟨g1, g2⟩ := strKs_some h1
  have g3 := strCs_len h2
  refine (pe_disp (pps_of h1 h2 hl) g1 (by omega) (by intro z; rw [z] at g2; exact h0 g2.symm) (by omega)).wk fun σ H Q ⟨ρ, d, rs, ev, k⟩ => ?_
  have e : some (D.dic as (bs.map .str)) = some d := by simpa only [evC] using ev
  cases e
  intro q hq
  refine pairs_const ⟨upd_same, List.zipWith pairKV as bs, rfl, by rw [List.length_zipWith]; omega, ?_⟩
  obtain ⟨z1, z2⟩ := zip_keys hl
  have nd : ((([] : List (Key × V)) ++ List.zipWith pairKV as bs).map (·.1)).Nodup := by
    rw [List.nil_append, z1]
    exact List.pairwise_map.mpr (List.Pairwise.imp (fun {x y} h e => h (toS_inj (Sum.inr.inj e))) hnd)
  rw [merge_new nd, List.nil_append, upd_upd]
  refine k _ _ (same_new hq) (.dic upd_same z1 ?_)
  rw [z2]
  exact rep_strs bs
theorem items_rep {H : Hp} : ∀ {ts : List Addr} {kvs : List (Key × V)} {ks : List (List Ch)} {vs : List D}, Paired (fun (t : Addr) (q : Key × V) => H t = some (.tup [kV q.1, q.2])) ts kvs → kvs.map (·.1) = ks.map (fun k => (Sum.inr (toS k) : Key)) → RepL K T H (kvs.map (·.2)) vs →
    RepL K T H (ts.map V.ref) (dflD ks vs)
  | _, _, [], vs, .nil, _, hv => by
    have hv2 : RepL K T H [] vs := hv
    cases hv2
    exact .nil
  | _, _, _ :: _, _, .nil, h, _ => by simp at h
  | _, _, [], _, .cons _ _, h, _ => by simp at h
  | _, _, x :: ks, vs, .cons (a := t) (b := kv) (l₁ := ts) (l₂ := kvs) ht hp, h, hv => by
    have h3 : kv.1 :: kvs.map (·.1) = Sum.inr (toS x) :: ks.map (fun k => (Sum.inr (toS k) : Key)) := h
    injection h3 with h4 h5
    have hv2 : RepL K T H (kv.2 :: kvs.map (·.2)) vs := hv
    cases hv2 with
    | @cons _ _ d ds r2 r3 =>
      refine .cons (.tup (SqT.of ht) (.cons ?_ (.cons r2 .nil))) (items_rep hp h5 r3)
      rw [h4]
      exact .str x
theorem q_items {lpos : Pos} (Fx : Facts X G F T M m) (hg : glB X.env.scope "list" = true) (hr : recvE a = true) (hl : apos.endLine = cpos.line) (ha : PE X a (tC G F X.K T ca)) :
    PE X (.Call (.Name "list" p) [.Call (.Attribute a "items" apos) [] [] cpos] [] pos) (tC G F X.K T (.items ca)) := by
  refine (LiI.pe_listItems Fx.calm ha (gl_of hg) (Fx.blt _ (by decide)) PyProof.Rows.boot_list (base_plain hr) (by simpa using hl)).wk fun σ H Q ⟨ρ, d, rs, ev, k⟩ => ?_
  simp only [evC] at ev
  split at ev
  · rename_i ks vs e1
    split at ev
    · rename_i ef
      cases ev
      refine ⟨ρ, .dic ks vs, rs, e1, fun v H1 s1 r1 => ?_⟩
      obtain ⟨q, kvs, rfl, hq, hk, hv⟩ := rep_dic r1
      exact ⟨q, kvs, rfl, hq, fun H' l ts sm hl' hts hlt hL hP => k _ _ (s1.trans sm) (.lst (.inl hL) (items_rep hP hk (hv.mono sm)))⟩
    · cases ev
  · cases ev
end
end Rp
namespace Rp
open PySem PySem.Spec PyProof.Rows L2
section
variable {X : Cx} {G : Gt} {F : Ft} {T : Cl} {M : Nm} {m n : Nat} {pos p apos cpos : Pos} {a b c e o : Expr} {ca cb cc : C} {K : PySem.W.Frag} {es : List Expr} {cl : CL} {x : Str}
theorem isPre_take : ∀ (b a : List Ch), isPre b a = decide ((a.map (·.val)).take b.length = b.map (·.val))
  | [], a => by simp [isPre]
  | x :: b, [] => by simp [isPre]
  | x :: b, y :: a => by
    simp only [isPre, isPre_take b a, List.map_cons, List.length_cons, List.take_succ_cons, List.cons.injEq]
    by_cases h : y.val = x.val
    · rw [Nat.beq_eq.mpr h.symm]
      simp [h]
    · have h2 : Nat.beq x.val y.val = false := by
        cases e : Nat.beq x.val y.val with
        | false => rfl
        | true => exact absurd (Nat.beq_eq.mp e).symm h
      rw [h2]
      simp [h]
theorem starts_ok (a b : List Ch) : Txt.startswith (toS a) (toS b) = isPre b a := by
  rw [isPre_take]
  unfold Txt.startswith Builtin.Str.subAt
  rw [toS_len, toS_len]
  have e1 : ((toS a).cps.extract 0 (0 + b.length) == (toS b).cps) = decide ((a.map (·.val)).take b.length = b.map (·.val)) := by
    have e2 : (toS a).cps.extract 0 (0 + b.length) = ((a.map (·.val)).take b.length).toArray := by
      show ((a.map (·.val)).toArray).extract 0 (0 + b.length) = _
      simp
    rw [e2]
    show (((a.map (·.val)).take b.length).toArray == (b.map (·.val)).toArray) = _
    by_cases h : (a.map (·.val)).take b.length = b.map (·.val)
    · rw [h]
      simp
    · rw [decide_eq_false h]
      simpa using h
  rw [e1]
  by_cases h : (a.map (·.val)).take b.length = b.map (·.val)
  · have h2 : b.length ≤ a.length := by
      have := congrArg List.length h
      rw [List.length_take, List.length_map, List.length_map] at this
      omega
    rw [decide_eq_true h]
    simpa using h2
  · rw [decide_eq_false h]
    simp
theorem m1_inv {f : Mt1} {ρ : Ev} {d : D} (ev : evC G F (.m1 f ca cb) ρ = some d) : ∃ x y, evC G F ca ρ = some x ∧ evC G F cb ρ = some y ∧ appM f x y = some d := by
  simp only [evC] at ev
  cases e1 : evC G F ca ρ with
  | none => simp only [e1] at ev; cases ev
  | some x =>
    cases e2 : evC G F cb ρ with
    | none => simp only [e1, e2] at ev; cases ev
    | some y => exact ⟨x, y, rfl, rfl, by simpa only [e1, e2] using ev⟩
/-- a text's method with one argument -/
theorem m1_read {σ : L2.St} {H : Hp} {ρ : Ev} {Q : VK} {r : V → List V → Hp → VK → Prop} {s : List Ch} {y : D} (rs : RepS K T H σ ρ) (ea : evC G F ca ρ = some (.str s)) (eb : evC G F cb ρ = some y)
    (h : ∀ w H', Same H H' → Rep K T H' w y → r (.str (toS s)) [w] H' Q) : tM1 r (tC G F K T ca) (tC G F K T cb) σ H Q :=
  ⟨ρ, .str s, rs, ea, fun v H1 s1 r1 => ⟨⟨_, rep_str r1⟩, ρ, y, rs.mono s1, eb, fun w H2 s2 r2 => by rw [rep_str r1]; exact h w H2 (s1.trans s2) r2⟩⟩
theorem appM_inv {f : Mt1} {x y d : D} (h : appM f x y = some d) : ∃ s, x = .str s := by
  unfold appM at h
  split at h <;> first | exact ⟨_, rfl⟩ | cases h
theorem q_starts (hr : recvE a = true) (hb0 : argE b = true) (hl : apos.endLine = cpos.line) (ha : PE X a (tC G F X.K T ca)) (hb : PE X b (tC G F X.K T cb)) :
    PE X (.Call (.Attribute a "startswith" apos) [b] [] cpos) (tC G F X.K T (.m1 .startswith ca cb)) := by
  refine (pe_m1 PySem.F.slot_str_startswith PySem.F.type_str_startswith mt_startswith ha hb (star_plain hb0) (base_plain hr) (by simpa using hl)).wk fun σ H Q ⟨ρ, d, rs, ev, k⟩ => ?_
  obtain ⟨x, y, e1, e2, e3⟩ := m1_inv ev
  obtain ⟨s, rfl⟩ := appM_inv e3
  cases y <;> try (exact nomatch (show (Option.none : Option D) = some d from e3))
  case str t =>
    cases (show some (D.bl (isPre t s)) = some d from e3)
    refine m1_read rs e1 e2 fun w H1 s1 r1 => ⟨toS s, toS t, rfl, by rw [rep_str r1], ?_⟩
    rw [starts_ok]
    exact k _ _ s1 (.bl _)
theorem q_strip (hr : recvE a = true) (hb0 : argE b = true) (hl : apos.endLine = cpos.line) (ha : PE X a (tC G F X.K T ca)) (hb : PE X b (tC G F X.K T cb)) :
    PE X (.Call (.Attribute a "strip" apos) [b] [] cpos) (tC G F X.K T (.m1 .strip ca cb)) := by
  refine (pe_m1 PySem.F.slot_str_strip PySem.F.type_str_strip mt_stripChars ha hb (star_plain hb0) (base_plain hr) (by simpa using hl)).wk fun σ H Q ⟨ρ, d, rs, ev, k⟩ => ?_
  obtain ⟨x, y, e1, e2, e3⟩ := m1_inv ev
  obtain ⟨s, rfl⟩ := appM_inv e3
  cases y <;> try (exact nomatch (show (Option.none : Option D) = some d from e3))
  case str t =>
    cases ef : fit s.length with
    | false => simp only [appM, ef] at e3; cases e3
    | true =>
      simp only [appM, ef] at e3
      cases e4 : chOf (Txt.stripChars (toS s) (toS t)).cps.toList with
      | none => rw [e4] at e3; cases e3
      | some r =>
        rw [e4] at e3
        cases e3
        refine m1_read rs e1 e2 fun w H1 s1 r1 => ⟨toS s, toS t, rfl, by rw [rep_str r1], by rw [toS_len]; exact fit_le ef, ?_⟩
        rw [← chOf_toS e4]
        exact k _ _ s1 (.str _)
theorem chsOf_ok {H : Hp} : ∀ {ss : List Str} {ds : List D}, chsOf ss = some ds → RepL K T H (ss.map V.str) ds
  | [], ds, h => by
    cases (show some [] = some ds from h)
    exact .nil
  | s :: ss, ds, h => by
    unfold chsOf at h
    split at h
    · rename_i r rs e1 e2
      cases h
      have q := chsOf_ok (H := H) e2
      rw [List.map_cons, ← chOf_toS e1]
      exact .cons (.str _) q
    · cases h
theorem q_split (hr : recvE a = true) (hb0 : argE b = true) (hl : apos.endLine = cpos.line) (ha : PE X a (tC G F X.K T ca)) (hb : PE X b (tC G F X.K T cb)) :
    PE X (.Call (.Attribute a "split" apos) [b] [] cpos) (tC G F X.K T (.m1 .split ca cb)) := by
  refine (pe_split ha hb (star_plain hb0) (base_plain hr) (by simpa using hl)).wk fun σ H Q ⟨ρ, d, rs, ev, k⟩ => ?_
  obtain ⟨x, y, e1, e2, e3⟩ := m1_inv ev
  obtain ⟨s, rfl⟩ := appM_inv e3
  cases y <;> try (exact nomatch (show (Option.none : Option D) = some d from e3))
  case str t =>
    cases ez : Nat.beq t.length 0 with
    | true => simp only [appM, ez] at e3; cases e3
    | false =>
      cases ef : fit (s.length + 2) with
      | false => simp only [appM, ez, ef] at e3; cases e3
      | true =>
        simp only [appM, ez, ef] at e3
        cases e4 : chsOf (Txt.split (toS s) (toS t)) with
        | none => rw [e4] at e3; cases e3
        | some r =>
          rw [e4] at e3
          cases e3
          refine m1_read rs e1 e2 fun w H1 s1 r1 => ⟨toS s, toS t, rfl, by rw [rep_str r1], ?_, by rw [toS_len]; exact fit_le ef, fun q hq => ?_⟩
          · rw [toS_len, nbeq]; exact ez
          · exact k _ _ (s1.trans (same_new hq)) (.lst (.inl upd_same) (chsOf_ok e4))
theorem joinL_nil : ∀ l : List (List Nat), TL.joinL [] l = l.flatten
  | [] => rfl
  | [x] => by simp [TL.joinL]
  | x :: y :: r => by
    show x ++ ([] ++ TL.joinL [] (y :: r)) = _
    rw [joinL_nil (y :: r)]
    simp
theorem join_ok (ss : List (List Ch)) : Txt.join (toS []) (ss.map toS) = toS ss.flatten := by
  refine TL.ext_tl ?_
  rw [TL.join_eq, TL.tl_join]
  show TL.joinL [] ((ss.map toS).map TL.tl) = (toS ss.flatten).cps.toList
  rw [joinL_nil, toS_cps, List.map_flatten, List.map_map]
  congr 1
theorem flat_len : ∀ ss : List (List Ch), ((ss.map toS).map (·.length)).sum = ss.flatten.length
  | [] => rfl
  | s :: r => by
    show (toS s).length + ((r.map toS).map (·.length)).sum = (s ++ r.flatten).length
    rw [flat_len r, toS_len, List.length_append]
theorem q_join (hr : recvE a = true) (hb0 : argE b = true) (hl : apos.endLine = cpos.line) (ha : PE X a (tC G F X.K T ca)) (hb : PE X b (tC G F X.K T cb)) :
    PE X (.Call (.Attribute a "join" apos) [b] [] cpos) (tC G F X.K T (.m1 .join ca cb)) := by
  refine (pe_join ha hb (star_plain hb0) (base_plain hr) (by simpa using hl)).wk fun σ H Q ⟨ρ, d, rs, ev, k⟩ => ?_
  obtain ⟨x, y, e1, e2, e3⟩ := m1_inv ev
  obtain ⟨s, rfl⟩ := appM_inv e3
  cases s with
  | cons c s => cases y <;> exact nomatch (show (Option.none : Option D) = some d from e3)
  | nil =>
    cases y <;> try (exact nomatch (show (Option.none : Option D) = some d from e3))
    case lst xs =>
      cases e4 : strsOf xs with
      | none => simp only [appM, e4] at e3; cases e3
      | some ss =>
        simp only [appM, e4] at e3
        cases ef : fit ss.flatten.length with
        | false => simp only [ef] at e3; cases e3
        | true =>
          simp only [ef] at e3
          cases e3
          refine m1_read rs e1 e2 fun w H1 s1 r1 => ?_
          obtain ⟨q, vs, rfl, hq, hv⟩ := rep_lst r1
          have e5 := strs_ok hv e4
          subst e5
          refine ⟨toS [], q, ss.map toS, rfl, rfl, .inl (.inl hq), ?_, ?_⟩
          · rw [flat_len]
            show ss.flatten.length + (ss.map toS).length * 0 ≤ 16777216
            rw [Nat.mul_zero, Nat.add_zero]
            exact Nat.ble_eq.mp ef
          · rw [join_ok]
            exact k _ _ s1 (.str _)
mutual
theorem Rep.setL {H : Hp} {q : Addr} {xs ys : List V} (hq : H q = some (.lst xs)) : ∀ {v : V} {d : D}, Rep K T H v d → noL d = true → Rep K T (upd H q (.lst ys)) v d
  | _, _, .non, _ => .non
  | _, _, .bl b, _ => .bl b
  | _, _, .int i, _ => .int i
  | _, _, .str s, _ => .str s
  | _, _, .tup h r, n => by
    refine .tup ?_ (RepL.setL hq r n)
    rcases h with h | h
    · rcases h with h | ⟨o, h⟩
      · exact .inl (.inl (by rw [upd_ne (ne_of h hq (by intro z; cases z))]; exact h))
      · exact .inl (.inr ⟨o, by rw [upd_ne (ne_of h hq (by intro z; cases z))]; exact h⟩)
    · exact .inr h
  | _, _, .lst _ _, n => by cases n
  | _, _, .dic h k r, n => .dic (by rw [upd_ne (ne_of h hq (by intro z; cases z))]; exact h) k (RepL.setL hq r n)
  | _, _, .ins h k r, n => .ins (by rw [upd_ne (ne_of h hq (by intro z; cases z))]; exact h) k (RepL.setL hq r n)
theorem RepL.setL {H : Hp} {q : Addr} {xs ys : List V} (hq : H q = some (.lst xs)) : ∀ {vs : List V} {ds : List D}, RepL K T H vs ds → noLs ds = true → RepL K T (upd H q (.lst ys)) vs ds
  | _, _, .nil, _ => .nil
  | _, _, .cons h r, n => by
    obtain ⟨n1, n2⟩ := Bool.and_eq_true_iff.mp (show (noL _ && noLs _) = true from n)
    exact .cons (Rep.setL hq h n1) (RepL.setL hq r n2)
end
theorem noLs_app : ∀ {as bs : List D}, noLs as = true → noLs bs = true → noLs (as ++ bs) = true
  | [], _, _, h => h
  | a :: as, bs, h, h2 => by
    obtain ⟨n1, n2⟩ := Bool.and_eq_true_iff.mp (show (noL a && noLs as) = true from h)
    show (noL a && noLs (as ++ bs)) = true
    rw [n1, noLs_app n2 h2]
    rfl
def tQ (G : Gt) (F : Ft) (K : PySem.W.Frag) (T : Cl) (c : CO) : TT := fun σ H Q => ∃ ρ b, RepS K T H σ ρ ∧ evT G F c ρ = some (.bl b) ∧ ∀ H', Same H H' → Q b H'
theorem q_tnone : PTs X [] (tQ G F X.K T .none) := ⟨fun pins s σ H Q I ⟨ρ, b, rs, ev, k⟩ => pts_nil.run pins s σ H Q I (by
  have e : some (D.bl true) = some (D.bl b) := by simpa only [evT] using ev
  cases e
  exact k H (Same.refl H))⟩
theorem q_tsome (h : PT X a (tK G F X.K T ca)) : PTs X [a] (tQ G F X.K T (.some ca)) := ⟨fun pins s σ H Q I ⟨ρ, b, rs, ev, k⟩ => (pts_one h).run pins s σ H Q I ⟨ρ, b, rs, by simpa only [evT] using ev, k⟩⟩
/-- what is walked: the items vs, while the heap holds what it held -/
structure Wks (J : It) (H1 : Hp) (vs : List V) : Prop where
  go : ∀ H, Same H1 H → ∀ i, i < vs.length → J.go i H
  yld : ∀ H, Same H1 H → ∀ i x H', J.yld i H x H' → H' = H ∧ vs[i]? = some x
  stop : ∀ H, Same H1 H → J.stop vs.length H
theorem wks_list {q : Addr} {H : Hp} {vs : List V} (h : SqL K H q vs) : Wks (Itl K q) H vs :=
  ⟨fun H' s i hi => ⟨vs, vs[i], s.seq h, by simp [hi]⟩, fun H' s i x H2 ⟨e, y⟩ => ⟨e, y vs (s.seq h)⟩, fun H' s => ⟨vs, s.seq h, Nat.le_refl _⟩⟩
theorem wks_tup {q : Addr} {H : Hp} {vs : List V} (h : SqT K H q vs) : Wks (Itt K q) H vs :=
  ⟨fun H' s i hi => ⟨vs, vs[i], sqT_same s h, by simp [hi]⟩, fun H' s i x H2 ⟨e, y⟩ => ⟨e, y vs (sqT_same s h)⟩, fun H' s => ⟨vs, sqT_same s h, Nat.le_refl _⟩⟩
theorem wks_str {H : Hp} (s : List Ch) : Wks (Its (toS s)) H (s.map fun c => V.str (toS [c])) := by
  have hz : (toS s).cps.size = s.length := by
    have := toS_len s
    exact this
  have hl : (s.map fun c => V.str (toS [c])).length = s.length := by simp
  refine ⟨fun H' _ i hi => ?_, fun H' _ i x H2 ⟨e, c, hc, hx⟩ => ⟨e, ?_⟩, fun H' _ => ?_⟩
  · show i < (toS s).cps.size
    omega
  · subst hx
    have h1 : (toS s).cps.toList[i]? = some c := by rw [Array.getElem?_toList]; exact hc
    rw [toS_cps, List.getElem?_map] at h1
    rw [List.getElem?_map]
    cases e : s[i]? with
    | none => rw [e] at h1; cases h1
    | some d =>
      rw [e] at h1
      have h2 : d.val = c := by simpa using h1
      subst h2
      rfl
  · show (toS s).cps.size ≤ (s.map fun c => V.str (toS [c])).length
    omega
theorem lc_gen {J : It} {vs : List V} {g : TG} {tt : TT} {te : TE} {ws : List Nat} {σ : L2.St} {H1 : Hp} {D : Addr} {Qd : Hp → Prop} (w : Wks J H1 vs) (Pv : Nat → Hp → Prop) (h0 : Pv 0 (upd H1 D (.lst []))) (hm : ∀ i H, Pv i H → Same H1 H)
    (hs : ∀ i x H, vs[i]? = some x → Pv i H → g x (L2.wipe σ ws) H fun σ2 H2 => L2.wipe σ2 ws = L2.wipe σ ws ∧ tt σ2 H2 fun b H3 =>
      if b = true then te σ2 H3 fun y H4 => ∃ acc, H4 D = some (.lst acc) ∧ acc.length < sizeLine ∧ Pv (i + 1) (upd H4 D (.lst (acc ++ [y]))) else Pv (i + 1) H3) (hd : ∀ H, Pv vs.length H → Qd H) :
    ∃ W : Nat → Nat → Hp → Prop, (∃ m, W 0 m (upd H1 D (.lst []))) ∧ ∀ i m H, W i m H →
      (J.stop i H ∧ Qd H) ∨ (J.go i H ∧ ∃ Nx : Hp → Prop, (∀ H', Nx H' → ∃ m', m' < m ∧ W (i + 1) m' H') ∧ ∀ x H', J.yld i H x H' → g x (L2.wipe σ ws) H' fun σ2 H2 => L2.wipe σ2 ws = L2.wipe σ ws ∧ tt σ2 H2 fun b H3 =>
        if b = true then te σ2 H3 fun y H4 => ∃ acc, H4 D = some (.lst acc) ∧ acc.length < sizeLine ∧ Nx (upd H4 D (.lst (acc ++ [y]))) else Nx H3) := by
  refine ⟨fun i m H => m = vs.length - i ∧ i ≤ vs.length ∧ Pv i H, ⟨vs.length, by simp, Nat.zero_le _, h0⟩, ?_⟩
  rintro i m H ⟨rfl, hi, p⟩
  have sm := hm i H p
  by_cases hlt : i < vs.length
  · refine .inr ⟨w.go H sm i hlt, Pv (i + 1), fun H' p' => ⟨vs.length - (i + 1), by omega, rfl, hlt, p'⟩, fun x H' y => ?_⟩
    obtain ⟨e, hx⟩ := w.yld H sm i x H' y
    subst e
    exact hs i x _ hx p
  · have e : i = vs.length := by omega
    subst e
    exact .inl ⟨w.stop H sm, hd H p⟩
theorem comp_read {J : It} {vs : List V} {xs ys : List D} {σ : L2.St} {ρ : Ev} {H1 : Hp} {Q : VK} {i : Nat} {ct : CO} (w : Wks J H1 vs) (rs : RepS K T H1 σ ρ) (rv : RepL K T H1 vs xs) (hz : xs.length ≤ sizeLine)
    (ev : compD (wipeD ρ i) i (fun r => evT G F ct r) (fun r => evC G F ca r) xs = some ys) (k : Got K T H1 (.lst ys) Q) : ∀ D, H1 D = none → ∃ W : Nat → Nat → Hp → Prop, (∃ m, W 0 m (upd H1 D (.lst []))) ∧ ∀ j m H, W j m H →
      (J.stop j H ∧ Q (.ref D) H) ∨ (J.go j H ∧ ∃ Nx : Hp → Prop, (∀ H', Nx H' → ∃ m', m' < m ∧ W (j + 1) m' H') ∧ ∀ x H', J.yld j H x H' → gName i x (L2.wipe σ [i]) H' fun σ2 H2 => L2.wipe σ2 [i] = L2.wipe σ [i] ∧ tQ G F K T ct σ2 H2 fun b H3 =>
        if b = true then tC G F K T ca σ2 H3 fun y H4 => ∃ acc, H4 D = some (.lst acc) ∧ acc.length < sizeLine ∧ Nx (upd H4 D (.lst (acc ++ [y]))) else Nx H3) := by
  intro D hD
  have hl := rv.length
  refine lc_gen (Qd := fun H => Q (.ref D) H) w (fun j H => ∃ acc accD rest, Same H1 H ∧ H D = some (.lst acc) ∧ RepL K T H acc accD ∧ accD.length ≤ j ∧ noLs accD = true ∧ compD (wipeD ρ i) i (fun r => evT G F ct r) (fun r => evC G F ca r) (xs.drop j) = some rest ∧ accD ++ rest = ys)
    ⟨[], [], ys, same_new hD, upd_same, .nil, Nat.le_refl _, rfl, ev, rfl⟩ (fun j H ⟨_, _, _, sm, _⟩ => sm) ?_ ?_
  · rintro j x H hx ⟨acc, accD, rest, sm, hHD, ra, hlen, hno, hc, hy⟩
    obtain ⟨d, hd, rd⟩ := rv.getV hx
    have hj : j < xs.length := (List.getElem?_eq_some_iff.mp hd).1
    have hdrop : xs.drop j = d :: xs.drop (j + 1) := by
      rw [List.drop_eq_getElem_cons hj]
      congr 1
      have := List.getElem?_eq_getElem hj
      rw [this] at hd
      exact Option.some.inj hd
    rw [hdrop] at hc
    refine ⟨?_, ?_⟩
    · show ((σ.set i none).set i (some x)).set i none = σ.set i none
      rw [List.set_set, List.set_set]
    have rs2 : RepS K T H ((L2.wipe σ [i]).set i (some x)) ((wipeD ρ i).set i (some d)) := ((rs.mono sm).wipe i).set i (rd.mono sm)
    unfold compD at hc
    split at hc
    · rename_i et
      refine ⟨_, true, rs2, et, fun H3 s3 => ?_⟩
      split at hc
      · rename_i y ys' ee er
        split at hc
        · rename_i hno2
          cases hc
          refine iteT ⟨_, y, rs2.mono s3, ee, fun u H4 s4 r4 => ⟨acc, s4 _ _ (s3 _ _ hHD), ?_, ?_⟩⟩
          · rw [ra.length]
            omega
          · have h4 : H4 D = some (.lst acc) := s4 _ _ (s3 _ _ hHD)
            refine ⟨acc ++ [u], accD ++ [y], ys', fun b o e => ?_, upd_same, ?_, by simp; omega, noLs_app hno (by show (noL y && true) = true; rw [hno2]; rfl), er, by rw [← hy]; simp⟩
            · rw [upd_ne (ne_of_none e hD)]
              exact s4 _ _ (s3 _ _ (sm _ _ e))
            · exact (RepL.setL h4 ((ra.mono s3).mono s4) hno).append (.cons (Rep.setL h4 r4 hno2) .nil)
        · cases hc
      · cases hc
    · rename_i et
      refine ⟨_, false, rs2, et, fun H3 s3 => iteF ?_⟩
      exact ⟨acc, accD, rest, sm.trans s3, s3 _ _ hHD, ra.mono s3, by omega, hno, hc, hy⟩
    · cases hc
  · rintro H ⟨acc, accD, rest, sm, hHD, ra, hlen, hno, hc, hy⟩
    rw [hl, List.drop_length] at hc
    cases (show some [] = some rest from hc)
    rw [List.append_nil] at hy
    subst hy
    exact k _ H sm (.lst (.inl hHD) ra)
theorem rep_chars {H : Hp} : ∀ s : List Ch, RepL K T H (s.map fun c => V.str (toS [c])) (s.map fun c => D.str [c])
  | [] => .nil
  | c :: s => .cons (.str [c]) (rep_chars s)
theorem lcomp_inv {i : Nat} {ct : CO} {ρ : Ev} {d : D} (ev : evC G F (.lcomp i cb ct ca) ρ = some d) : ∃ x xs ys, evC G F cb ρ = some x ∧ itemsD x = some xs ∧ fit xs.length = true ∧ compD (wipeD ρ i) i (fun r => evT G F ct r) (fun r => evC G F ca r) xs = some ys ∧ d = .lst ys := by
  simp only [evC] at ev
  cases e1 : evC G F cb ρ with
  | none => simp only [e1] at ev; cases ev
  | some x =>
    simp only [e1] at ev
    cases e2 : itemsD x with
    | none => simp only [e2] at ev; cases ev
    | some xs =>
      simp only [e2] at ev
      cases e3 : fit xs.length with
      | false => simp only [e3] at ev; cases ev
      | true =>
        simp only [e3] at ev
        cases e4 : compD (wipeD ρ i) i (fun r => evT G F ct r) (fun r => evC G F ca r) xs with
        | none => rw [e4] at ev; cases ev
        | some ys =>
          rw [e4] at ev
          cases ev
          exact ⟨x, xs, ys, rfl, e2, e3, e4, rfl⟩
theorem comp_all {tg : Expr} {i : Nat} {ct : CO} {σ : L2.St} {H : Hp} {Q : VK} {ρ : Ev} {d : D} (rs : RepS X.K T H σ ρ) (ev : evC G F (.lcomp i cb ct ca) ρ = some d) (k : Got X.K T H d Q) :
    tLc (fun σ H R => iList X.K (tC G F X.K T cb) σ H R ∨ iTup X.K (tC G F X.K T cb) σ H R ∨ iStr (tC G F X.K T cb) σ H R) (gName i) (tQ G F X.K T ct) (tC G F X.K T ca) [i] σ H Q := by
  obtain ⟨x, xs, ys, e1, e2, e3, e4, rfl⟩ := lcomp_inv ev
  have hz := fit_le e3
  cases x <;> try (exact nomatch (show (Option.none : Option (List D)) = some xs from e2))
  case str s =>
    cases (show some (s.map fun c => D.str [c]) = some xs from e2)
    refine .inr (.inr ⟨ρ, .str s, rs, e1, fun v H1 s1 r1 => ⟨toS s, rep_str r1, ?_⟩⟩)
    exact comp_read (wks_str s) (rs.mono s1) (rep_chars s) hz e4 fun u H2 s2 r2 => k _ _ (s1.trans s2) r2
  case tup zs =>
    cases (show some zs = some xs from e2)
    refine .inr (.inl ⟨ρ, .tup xs, rs, e1, fun v H1 s1 r1 => ?_⟩)
    obtain ⟨q, vs, rfl, hq, hv⟩ := rep_tup r1
    exact ⟨q, rfl, ⟨vs, hq⟩, comp_read (wks_tup hq) (rs.mono s1) hv hz e4 fun u H2 s2 r2 => k _ _ (s1.trans s2) r2⟩
  case lst zs =>
    cases (show some zs = some xs from e2)
    refine .inl ⟨ρ, .lst xs, rs, e1, fun v H1 s1 r1 => ?_⟩
    obtain ⟨q, vs, rfl, hq, hv⟩ := rep_lst r1
    exact ⟨q, rfl, ⟨vs, .inl hq⟩, comp_read (wks_list (.inl hq)) (rs.mono s1) hv hz e4 fun u H2 s2 r2 => k _ _ (s1.trans s2) r2⟩
end
end Rp
namespace Rp
open PySem PySem.Spec PyProof.Rows L2
section
variable {prog : Program} {w : World} {A : Around} {E : Value → Shared → Prop} {s : Shared}
theorem wpAny_dictPut {K : Type} [DecidableEq K] {knd : KeyKind prog w K} {d : Addr} {kvs : List (K × Value)} {k : K} {key v : Value} {Q : Unit → Shared → Prop} (hkey : knd.is k key = true) (hm : s.heap.DictOf knd d kvs)
    (hQ : ∀ h', h'.DictOf knd d (stored kvs k v) → Heap.SameBut d s.heap h' → Q () { s with heap := h' })
    (hsz : kvs.length ≤ sizeLine := by size_fits) :
    wpAny (model prog w) A (dictPut d (knd.hash k) key v) Q E s := by
  obtain ⟨o, es, ep, ho, hc, hd, hk, hp, hn⟩ := hm
  have hes : es.size ≤ sizeLine := by have e1 := hp.length; have e2 : es.toList.length = es.size := by simp
                                      omega
  unfold dictPut
  refine wpAny_bind (wpAny_dictFind_of hkey ho hd hk ?_)
  have hidx : (es.findIdx? fun e => knd.is k e.key) = kvs.findIdx? fun kv => decide (kv.1 = k) := by
    rw [← hp.findIdx k]; obtain ⟨l⟩ := es; simp
  cases hi : es.findIdx? fun e => knd.is k e.key with
  | some i =>
    refine wpAny_updateDict ho hd (hQ _ ⟨_, _, ep, Heap.get?_update_self _ ho (Obj.isFreed_of_dict (Obj.data_mapDict hd _)),
      hc.mapDict _, Obj.data_mapDict hd _, hk.modify _ _, ?_, ?_⟩ (Heap.SameBut.update ..))
    · rw [stored, if_pos (any_of_findIdx_some (hidx ▸ hi))]
      have hl : (es.toList.findIdx? fun e => knd.is k e.key) = some i := by rw [← hi]; obtain ⟨l⟩ := es; simp
      have := hp.modify hn hl v
      obtain ⟨l⟩ := es
      simpa using this
    · rw [stored, if_pos (any_of_findIdx_some (hidx ▸ hi)), keys_map_store]; exact hn
  | none =>
    have hnot : k ∉ kvs.map (·.1) := not_mem_of_findIdx_none (hidx ▸ hi)
    have hany : ¬ (kvs.any fun kv => decide (kv.1 = k)) = true := by
      rw [List.any_eq_true]; rintro ⟨kv, hkv, he⟩
      exact hnot (List.mem_map.mpr ⟨kv, hkv, of_decide_eq_true he⟩)
    refine wpAny_updateDictKeys (hz := hes) ho hd (hQ _ ⟨_, _, ep + 1, Heap.get?_update_self _ ho (Obj.isFreed_of_dict (Obj.data_mapDictKeys hd _)),
      hc.mapDictKeys _, Obj.data_mapDictKeys hd _, hk.push hkey _, ?_, ?_⟩ (Heap.SameBut.update ..))
    · rw [stored, if_neg hany]
      have := hp.append hkey (knd.hash k) v
      obtain ⟨l⟩ := es
      simpa using this
    · rw [stored, if_neg hany, List.map_append, List.nodup_append]
      refine ⟨hn, by simp, ?_⟩
      intro a ha b hb
      simp only [List.map_cons, List.map_nil, List.mem_singleton] at hb
      subst hb
      exact fun e => hnot (e ▸ ha)
theorem wpAny_mergeMapping {d o : Addr} {kvs more : List (Key × Value)} {Q : Unit → Shared → Prop} (hdo : d ≠ o ∨ more = []) (hoS : (o == sysModules) = false)
    (hd : s.heap.DictOf (mixKind prog w) d kvs) (ho : s.heap.DictOf (mixKind prog w) o more)
    (hQ : ∀ h', h'.DictOf (mixKind prog w) d (merged kvs more) → Heap.SameBut d s.heap h' → Q () { s with heap := h' })
    (hsz : kvs.length + more.length ≤ sizeLine) :
    wpAny (model prog w) A (mergeMapping d (.ref o) false) Q E s := by
  obtain ⟨od, esd, epd, hod, hcd, hdd, hkd, hpd, hnd⟩ := id hd
  obtain ⟨oo, eso, epo, hoo, hco, hdo', hko, hpo, hno⟩ := id ho
  have hT : s.TypeIs (.ref o) "dict" := ho.typeIs
  unfold mergeMapping
  refine wpAny_bind (wpAny_isInstance hT isSubtype_dict_dict ?_)
  rw [if_pos rfl]
  refine wpAny_bind (wpAny_specialOf hT PySem.F.slot_dict_iter.lookup ?_)
  refine wpAny_bind (wpAny_pure ?_)
  show wpAny _ _ (if (o == sysModules) = true then _ else _) _ _ _
  rw [if_neg (by rw [hoS]; exact Bool.false_ne_true)]
  refine wpAny_bind (wpAny_dictEntries hod hdd ?_)
  have hlen : more.length = eso.size := by rw [← hpo.length]; simp
  have tail : wpAny (model prog w) A (do
      let __do_lift ← dictEntries o
      have size : Nat := __do_lift.size
      let epoch ← dictEpoch o
      forIn (List.range size) PUnit.unit fun i (_ : PUnit) => (do
          let __do_lift ← dictEntries o
          match __do_lift[i]? with
            | some e => do
              holding [e.key, e.val] (dictPut d e.hash e.key e.val)
              let __do_lift ← dictEpoch o
              if (__do_lift != epoch) = true then do
                  (unsupported "dict.changed-during-merge" : Sem PUnit)
                  pure (ForInStep.yield PUnit.unit)
                else pure (ForInStep.yield PUnit.unit)
            | _ => do
              (unsupported "dict.changed-during-merge" : Sem PUnit)
              pure (ForInStep.yield PUnit.unit) : Sem (ForInStep PUnit))
      pure ()) Q E s := by
    refine wpAny_bind (wpAny_dictEntries hoo hdo' ?_)
    refine wpAny_bind (wpAny_dictEpoch hoo hdo' ?_)
    refine wpAny_bind ?_
    rw [List.range_eq_range']
    refine wpAny_forIn_list _
      (fun rest _ s' => ∃ h' i, s' = { s with heap := h' } ∧ rest = List.range' i (eso.size - i) ∧ i ≤ eso.size ∧ h'.DictOf (mixKind prog w) d (merged kvs (more.take i)) ∧ h'.get? o = some oo ∧ Heap.SameBut d s.heap h')
      _ ?_ ?_ _ _ ⟨s.heap, 0, rfl, by simp, Nat.zero_le _, by simpa [merged] using hd, hoo, Heap.SameBut.refl _ _⟩
    · rintro x rest b s' ⟨h', i, rfl, hr, hi, hd', hoo', hs'⟩
      have hlt : i < eso.size := by
        rcases Nat.lt_or_ge i eso.size with h | h
        · exact h
        · rw [Nat.sub_eq_zero_of_le h] at hr; simp at hr
      obtain ⟨rfl, hrest⟩ : x = i ∧ rest = List.range' (i + 1) (eso.size - (i + 1)) := by
        have e : eso.size - i = (eso.size - (i + 1)) + 1 := by omega
        rw [e, List.range'_succ] at hr
        injection hr with h1 h2
        exact ⟨h1, h2⟩
      have hdo : d ≠ o := hdo.resolve_right fun z => by
        rw [z] at hlen
        exact absurd (show x < 0 by rw [show 0 = eso.size from hlen]; exact hlt) (Nat.not_lt_zero _)
      refine wpAny_bind (wpAny_dictEntries hoo' hdo' ?_)
      rw [Array.getElem?_eq_getElem hlt]
      obtain ⟨kv, hkv⟩ : ∃ kv, more[x]? = some kv := ⟨more[x]'(by rw [hlen]; exact hlt), List.getElem?_eq_getElem _⟩
      obtain ⟨k, v⟩ := kv
      obtain ⟨hkey, hval⟩ := hpo.get? (e := eso[x]) (by simp [hlt]) hkv
      obtain ⟨k', hkey', hhash⟩ := hko eso[x] (Array.getElem_mem hlt)
      obtain rfl : k' = k := (mixKind prog w).inj _ _ _ hkey' hkey
      show wpAny _ _ (holding [eso[x].key, eso[x].val] (dictPut d eso[x].hash eso[x].key eso[x].val) >>= _) _ _ _
      rw [hhash, hval]
      have hmx : (merged kvs (more.take x)).length ≤ sizeLine := by
        have e1 := merged_length_le kvs (more.take x)
        have e2 : (more.take x).length ≤ more.length := by rw [List.length_take]; omega
        omega
      refine wpAny_bind (wpAny_holding (wpAny_dictPut (hsz := hmx) hkey hd' fun h'' hd'' hs'' => ?_))
      have hoo'' : h''.get? o = some oo := (hs''.2 o (Ne.symm hdo)).trans hoo'
      refine wpAny_bind (wpAny_dictEpoch hoo'' hdo' ?_)
      rw [if_neg (by simp)]
      exact wpAny_pure ⟨h'', x + 1, rfl, hrest, hlt, by rw [merged_take_succ kvs more x (k', v) hkv]; exact hd'', hoo'', hs'.trans hs''⟩
    · rintro b s' ⟨h', i, rfl, hr, hi, hd', hoo', hs'⟩
      have hin : i = eso.size := by
        have : (List.range' i (eso.size - i)).length = 0 := by rw [← hr]; rfl
        rw [List.length_range'] at this
        omega
      subst hin
      rw [← hlen, List.take_length] at hd'
      exact wpAny_pure (hQ h' hd' hs')
  by_cases he : esd.isEmpty = true
  · show wpAny _ _ (if esd.isEmpty = true then _ else _) _ _ _
    rw [if_pos he]
    refine wpAny_bind (wpAny_dictEntries hoo hdo' ?_)
    refine wpAny_bind ?_
    rw [← Array.forIn_toList]
    refine wpAny_forIn_list _ (fun rest _ s' => s' = s ∧ ∀ e ∈ rest, e ∈ eso.toList) _ ?_ ?_ _ _ ⟨rfl, fun e h => h⟩
    · rintro x rest b s' ⟨rfl, hr⟩
      obtain ⟨k, hk, _⟩ := hko x (by simpa using hr x (List.mem_cons_self ..))
      have hn : ∀ a, x.key ≠ .ref a := fun a z => by
        rw [z] at hk
        cases k <;> cases hk
      split
      · rename_i a z
        exact absurd z (hn a)
      · exact wpAny_pure ⟨rfl, fun e h => hr e (List.mem_cons_of_mem _ h)⟩
    · rintro b s' ⟨rfl, _⟩
      exact tail
  · show wpAny _ _ (if esd.isEmpty = true then _ else _) _ _ _
    rw [if_neg he]
    exact tail
theorem forIn_gather2 {d : Addr} (f : (Option (Sem Value) × Sem Value) → (Option Addr × List (Sem Value × Sem Value)) → Sem (ForInStep (Option Addr × List (Sem Value × Sem Value))))
    (hf : ∀ (p : Sem Value × Sem Value) (run : List (Sem Value × Sem Value)), run.length + 1 < 17 → f (some p.1, p.2) (some d, run) = pure (.yield (some d, run ++ [p]))) :
    ∀ (items run : List (Sem Value × Sem Value)), run.length + items.length < 17 → forIn (items.map fun p => (some p.1, p.2)) ((some d : Option Addr), run) f = pure (some d, run ++ items)
  | [], run, _ => by simp
  | p :: rest, run, h => by
    rw [List.map_cons, List.forIn_cons, hf p run (by simp at h; omega), pure_bind]
    have := forIn_gather2 f hf rest (run ++ [p]) (by simp at h ⊢; omega)
    simpa using this
theorem wpAny_dictDisplay_star {v : Sem Value} {pairs : List (Sem Value × Sem Value)} {Q : Value → Shared → Prop} (h0 : pairs ≠ []) (hlen : pairs.length < 17)
    (h : wpAny (model prog w) A v (fun m s1 => wpAny (model prog w) A (mergeMapping s.heap.objs.size m false) (fun _ s2 => wpAny (model prog w) A (subDict pairs) (fun sub s3 =>
      wpAny (model prog w) A (mergeMapping s.heap.objs.size (.ref sub) false) (fun _ s4 => Q (.ref s.heap.objs.size) s4) (fun _ _ => False) s3) E s2) (fun _ _ => False) s1) E
      { s with heap := s.heap.push { cls := .type "dict", data := .dict #[] } }) :
    wpAny (model prog w) A (dictDisplay ((none, v) :: pairs.map fun p => (some p.1, p.2))) Q E s := by
  unfold dictDisplay
  dsimp only
  rw [List.forIn_cons]
  simp only [List.isEmpty_nil, if_true, pure_bind, bind_assoc]
  refine wpAny_bind (wpAny_alloc ?_)
  refine wpAny_bind (wpAny_holding (thn h fun m s1 h1 => ?_))
  refine wpAny_bind (wpAny_onRaise (wpAny_tryCatch (wpAny_onRaise (wpAny_holding (wpAny_mono h1 (fun _ s2 h2 => ?_) fun _ _ z => z.elim)))))
  rw [forIn_gather2 _ (fun p run h => by
    have hne : ((run ++ [(p.1, p.2)]).length == 17) = false := by simp; omega
    simp only [hne, Bool.false_eq_true, if_false]) pairs [] (by simpa using hlen)]
  have hp : pairs.isEmpty = false := by cases pairs with
    | nil => exact absurd rfl h0
    | cons _ _ => rfl
  simp only [pure_bind, List.nil_append, hp, Bool.false_eq_true, if_false]
  refine wpAny_bind (wpAny_bind (wpAny_holding (thn h2 fun sub s3 h3 => ?_)))
  exact wpAny_bind (wpAny_onRaise (wpAny_holding (wpAny_mono h3 (fun _ s4 h4 => wpAny_pure (wpAny_pure h4)) fun _ _ z => z.elim)))
end
section
variable {X : Cx} {G : Gt} {F : Ft} {T : Cl} {M : Nm} {m n : Nat} {pos p apos cpos : Pos} {a b c e o : Expr} {ca cb cc : C} {K : PySem.W.Frag} {es : List Expr} {cl : CL} {x : Str}
theorem merge_nil {kvs : List (Key × V)} (h : (kvs.map (·.1)).Nodup) : mergeK [] kvs = kvs := by
  rw [merge_new (by simpa using h), List.nil_append]
theorem zip_map1 : ∀ {as bs : List (List Ch)}, as.length = bs.length → (as.zip (bs.map D.str)).map (·.1) = as ∧ (as.zip (bs.map D.str)).map (·.2) = bs.map D.str
  | [], [], _ => ⟨rfl, rfl⟩
  | a :: as, b :: bs, h => by
    obtain ⟨h1, h2⟩ := zip_map1 (as := as) (bs := bs) (by simpa using h)
    exact ⟨congrArg (a :: ·) h1, congrArg (D.str b :: ·) h2⟩
  | [], _ :: _, h => by simp at h
  | _ :: _, [], h => by simp at h
theorem kv_keys : ∀ {kvs : List (Key × V)} {vs : List (Key × Value)}, KV kvs vs → kvs.map (·.1) = vs.map (·.1)
  | _, _, .nil => rfl
  | _, _, .cons h r => by rw [List.map_cons, List.map_cons, h.1, kv_keys r]
theorem strs_rep {H H' : Hp} : ∀ {vs : List V} {xs : List D} {ss : List (List Ch)}, RepL K T H vs xs → strsOf xs = some ss → RepL K T H' vs xs
  | [], [], _, _, _ => .nil
  | [], _ :: _, _, r, _ => by cases r
  | _ :: _, [], _, r, _ => by cases r
  | v :: vs, x :: xs, ss, r, h => by
    unfold strsOf at h
    split at h
    · rename_i e0
      cases e0
    · rename_i z rest e0
      cases e0
      cases r with
      | cons r1 r2 =>
        cases e4 : strsOf xs with
        | none => rw [e4] at h; cases h
        | some ss' =>
          cases rep_str r1
          exact .cons (.str z) (strs_rep r2 e4)
    · cases h
theorem q_dstar {ks : List (Option Expr)} {vs : List Expr} {as bs : List (List Ch)} (Fx : Facts X G F T M m) (h1 : strKs ks = some as) (h2 : strCs vs = some bs) (hl : as.length = bs.length) (h15 : as.length ≤ 10) (h0 : as.length ≠ 0) (hnd : as.Nodup) (ha : PE X a (tC G F X.K T ca)) :
    PE X (.Dict (none :: ks) (a :: vs) pos) (tC G F X.K T (.dstar ca as bs)) := by
  obtain ⟨g1, g2⟩ := strKs_some h1
  have g3 := strCs_len h2
  refine ⟨fun pins s σ H Q I ⟨ρ, d, rs, ev, k⟩ => ?_⟩
  simp only [evC] at ev
  split at ev
  · rename_i ks0 vs0 e1
    split at ev
    · rename_i ss x y hfit e3 e2
      cases ev
      have hn := I.hok.fresh (Nat.le_refl s.heap.objs.size)
      have I1 := I.laid (a := s.heap.objs.size) (o := .dK []) (h' := s.heap.push { cls := .type "dict", data := .dict #[] }) (t' := s.toks) (fun _ _ q => Heap.get?_push_of_some _ q) (Nat.le_refl _) (dk_empty s.heap I.big)
      have hpl := pairTrees_length ks vs X.env pos g1 (by omega)
      have hz := zip_pairTrees ks vs X.env pos g1 (by omega)
      rw [arm_eval_Dict]
      refine wpAny_bind (wpAny_standAt ?_)
      show wpAny _ _ (dictDisplay ((none, do let x ← eval a X.env; standAt pos; pure x) :: ((evalEachOpt ks X.env).zip ((evalEach vs X.env).map fun v => do let x ← v; standAt pos; pure x)))) _ _ _
      rw [hz]
      refine wpAny_dictDisplay_star (by intro z; rw [z] at hpl; simp at hpl; omega) (by omega) ?_
      refine wpAny_bind (thn (ha.run pins _ σ _ (fun v H1 => Same (upd H s.heap.objs.size (.dK [])) H1 ∧ Rep X.K T H1 v (.dic ks0 vs0)) I1 ⟨ρ, _, rs.mono (same_new hn), e1, fun v H1 s1 r1 => ⟨s1, r1⟩⟩) fun u s1 ⟨v, H1, I2, ru, sm1, r1⟩ => ?_)
      refine wpAny_bind (wpAny_standAt (wpAny_pure ?_))
      obtain ⟨o, kvs, rfl, ho, hkk, hvv⟩ := rep_dic r1
      cases (show u = Value.ref o from ru)
      have hd1 : H1 s.heap.objs.size = some (.dK []) := sm1 _ _ upd_same
      obtain ⟨z0, hd0, vs00, r00, dd0⟩ := dk_of I2.hok hd1
      cases r00
      obtain ⟨zo, hdo, vso, ro, ddo⟩ := dk_of I2.hok ho
      have nd1 : (kvs.map (·.1)).Nodup := by
        obtain ⟨_, _, _, _, _, _, _, _, hn'⟩ := id ddo
        rw [kv_keys ro]
        exact hn'
      have lk : kvs.length = ks0.length := by have := congrArg List.length hkk; simpa using this
      have lz := fit_le hfit
      have lo := ro.length
      have hne : s.heap.objs.size ≠ o ∨ vso = [] := by
        by_cases z : s.heap.objs.size = o
        · rw [z, ho] at hd1
          cases hd1
          cases ro
          exact .inr rfl
        · exact .inl z
      refine wpAny_mergeMapping hne hdo dd0 ddo (fun h' dd' sb => ?_) (by simp; omega)
      have I3 : Inv X pins σ (upd H1 s.heap.objs.size (.dK (mergeK [] kvs))) { s1 with heap := h' } := by
        have he : ∃ q, h'.get? s.heap.objs.size = some q := let ⟨q, _, _, hq, _⟩ := dd'; ⟨q, hq⟩
        exact d_write (t' := s1.toks) I2 (by rw [hd1]; exact True.intro) sb he (dk_new (by have := length_mergeK kvs []; simp at this; omega) hd0 (ro.merge .nil) dd')
      rw [merge_nil nd1] at I3
      have hn3 := I3.hok.fresh (Nat.le_refl h'.objs.size)
      have hns : s.heap.objs.size ≠ h'.objs.size := fun z => by
        rw [← z, upd_same] at hn3
        cases hn3
      have hn1 : H1 h'.objs.size = none := by rw [upd_ne (Ne.symm hns)] at hn3; exact hn3
      have I4 := I3.laid (a := h'.objs.size) (o := .dK []) (h' := h'.push { cls := .type "dict", data := .dict #[] }) (t' := s1.toks) (fun _ _ q => Heap.get?_push_of_some _ q) (Nat.le_refl _) (dk_empty h' I3.big)
      refine wpAny_subDict (knd := mixKind X.prog X.w) (by omega) (thn ((pps_of (pos := pos) h1 h2 hl).run pins _ σ _ (fun ps H2 => ps = (List.zipWith pairKV as bs).map (fun kv => (kV kv.1, kv.2)) ∧ H2 = upd (upd H1 s.heap.objs.size (.dK kvs)) h'.objs.size (.dK [])) I4 (pairs_const ⟨rfl, rfl⟩)) fun ws s5 ⟨ps, H2, I5, rel, ep, eH⟩ => ?_)
      subst ep eH
      obtain ⟨rs5, c5, rk⟩ := carries_of (P := X.prog) (w := X.w) rel
      obtain ⟨z5, hd5, vs5, r5, dd5⟩ := dk_of I5.hok upd_same
      cases r5
      refine ⟨rs5, c5, dd5, fun h6 dd6 hs6 => ?_⟩
      obtain ⟨q1, q2⟩ := zip_keys hl
      have nd2 : ((List.zipWith pairKV as bs).map (·.1)).Nodup := by
        rw [q1]
        exact List.pairwise_map.mpr (List.Pairwise.imp (fun {x y} h e => h (toS_inj (Sum.inr.inj e))) hnd)
      have lzip : (List.zipWith pairKV as bs).length = as.length := by rw [List.length_zipWith]; omega
      have I6 : Inv X pins σ (upd (upd H1 s.heap.objs.size (.dK kvs)) h'.objs.size (.dK (mergeK [] (List.zipWith pairKV as bs)))) { s5 with heap := h6, toks := s5.toks + ws.length } := by
        have he : ∃ q, h6.get? h'.objs.size = some q := let ⟨q, _, _, hq, _⟩ := dd6; ⟨q, hq⟩
        have z := d_write (t' := s5.toks + ws.length) (ob := .dK (mergeK [] (List.zipWith pairKV as bs))) I5 (by rw [upd_same]; exact True.intro) hs6 he (dk_new (by have := length_mergeK (List.zipWith pairKV as bs) []; simp at this; rw [sizeLine_eq]; omega) hd5 (rk.merge .nil) dd6)
        rw [upd_upd] at z
        exact z
      rw [merge_nil nd2] at I6
      have e6 : (upd (upd H1 s.heap.objs.size (.dK kvs)) h'.objs.size (.dK (List.zipWith pairKV as bs))) s.heap.objs.size = some (.dK kvs) := by
        rw [upd_ne hns, upd_same]
      obtain ⟨z7, hd7, vs7, r7, dd7⟩ := dk_of I6.hok e6
      obtain ⟨z8, hd8, vs8, r8, dd8⟩ := dk_of I6.hok upd_same
      have l7 := r7.length
      have l8 := r8.length
      refine wpAny_mergeMapping (.inl hns) hd8 dd7 dd8 (fun h9 dd9 sb9 => ?_) (by omega)
      have he : ∃ q, h9.get? s.heap.objs.size = some q := let ⟨q, _, _, hq, _⟩ := dd9; ⟨q, hq⟩
      have I9 := d_write (t' := s5.toks + ws.length) (ob := .dK (mergeK kvs (List.zipWith pairKV as bs))) I6 (by rw [e6]; exact True.intro) sb9 he (dk_new (by have := length_mergeK (List.zipWith pairKV as bs) kvs; omega) hd7 (r8.merge r7) dd9)
      refine ⟨.ref s.heap.objs.size, _, I9, rfl, ?_⟩
      have sm : Same H (upd (upd (upd H1 s.heap.objs.size (.dK kvs)) h'.objs.size (.dK (List.zipWith pairKV as bs))) s.heap.objs.size (.dK (mergeK kvs (List.zipWith pairKV as bs)))) := fun b u e => by
        have b1 : b ≠ s.heap.objs.size := ne_of_none e hn
        have e1' : H1 b = some u := sm1 _ _ (by rw [upd_ne b1]; exact e)
        have b2 : b ≠ h'.objs.size := ne_of_none e1' hn1
        rw [upd_ne b1, upd_ne b2, upd_ne b1]
        exact e1'
      obtain ⟨w1, w2⟩ := zip_map1 hl
      have ez : (as.zip (bs.map D.str)).map (fun p => (Sum.inr (toS p.1) : Key)) = as.map (fun k => (Sum.inr (toS k) : Key)) := by
        conv => rhs; rw [← w1, List.map_map]
        rfl
      obtain ⟨p1, p2⟩ := putAll_ok (H := upd (upd (upd H1 s.heap.objs.size (.dK kvs)) h'.objs.size (.dK (List.zipWith pairKV as bs))) s.heap.objs.size (.dK (mergeK kvs (List.zipWith pairKV as bs)))) (T := T) (K := X.K) (more := List.zipWith pairKV as bs) (ps := as.zip (bs.map D.str)) (a := (ks0, vs0)) (by rw [q1, ez]) (by rw [q2, w2]; exact rep_strs bs) hkk (strs_rep hvv e3)
      rw [e2] at p1 p2
      exact k _ _ sm (.dic upd_same p1 p2)
    · cases ev
  · cases ev
end
end Rp
namespace Rp
open PySem PySem.Spec PyProof.Rows L2
section
variable {X : Cx} {G : Gt} {F : Ft} {T : Cl} {M : Nm} {m n : Nat} {pos p apos cpos : Pos} {a b c e o : Expr} {ca cb cc : C} {K : PySem.W.Frag} {es : List Expr} {cl : CL} {x : Str}
theorem Facts.blk (Fx : Facts X G F T M m) (s : Shared) (H : Hp) (scope : Scope) (cenv : Env) (fp : List Addr) : Facts (X.blk s H scope cenv fp) G F T M m :=
  ⟨Fx.calm, Fx.nd, Fx.room, Fx.cls, Fx.fld, Fx.fnd, Fx.noat, Fx.nometh, Fx.glo, Fx.tab, Fx.blt, Fx.fn, Fx.mt, Fx.mk_⟩
theorem loc_relS {scope sc : Scope} {y : Str} (h : locB scope y = true) : (scope.names.lookup y = some .local ∧ (relS scope sc).names.lookup y = some .local) ∨ (scope.names.lookup y = some .cell ∧ (relS scope sc).names.lookup y = some .cell) := by
  unfold locB at h
  split at h
  · rename_i e
    exact .inl ⟨e, lookup_relS_keep (sc := sc) (by decide) e⟩
  · rename_i e
    exact .inr ⟨e, lookup_relS_keep (sc := sc) (by decide) e⟩
  · cases h
theorem q_lcomp {y : Str} {py : Pos} {i : Nat} {scope : Scope} {ifs : List Expr} {ct : CO} (Fx : Facts X G F T M m) (hi : X.N[i]? = some y) (hb0 : argE b = true) (hblk : blkC X.N X.env.scope scope [(y, i)] = true) (hy : locB scope y = true)
    (hit : PE X b (tC G F X.K T cb)) (he : ∀ X', Facts X' G F T M m → X'.N = X.N → X'.K = X.K → X'.env.scope = relS scope X.env.scope → PE X' a (tC G F X.K T ca)) (ht : ∀ X', Facts X' G F T M m → X'.N = X.N → X'.K = X.K → X'.env.scope = relS scope X.env.scope → PTs X' ifs (tQ G F X.K T ct)) :
    PE X (.ListComp a [⟨.Name y py, b, ifs, 0⟩] scope pos) (tC G F X.K T (.lcomp i cb ct ca)) := by
  refine (pe_lc (own := [(y, i)]) (g := gName i) (tt := tQ G F X.K T ct) (te := tC G F X.K T ca) Fx.calm Fx.nd ((pi_list hit).or ((pi_tup hit).or (pi_str hit))) (blkOk_by hblk) (fun s H C cl fp => ?_) (fun s H C cl fp => ?_) (fun s H C cl fp => ?_) (noFold hb0)).wk
    fun σ H Q ⟨ρ, d, rs, ev, k⟩ => comp_all (tg := .Name y py) rs ev k
  · rcases loc_relS (sc := X.env.scope) hy with ⟨h1, h2⟩ | ⟨h1, h2⟩
    · exact pg_name Fx.nd hi (.inl h2) (.inr h2)
    · refine pg_name Fx.nd hi (.inr h2) (.inl ?_)
      show (scope.names.lookup y == some .cell) = true
      rw [h1]
      rfl
  · exact ht _ (Fx.blk s H scope _ fp) rfl rfl rfl
  · exact he _ (Fx.blk s H scope _ fp) rfl rfl rfl
end
section
variable {G : Gt} {F : Ft} {T : Cl} {M : Nm} {m : Nat}
theorem snd0 : Snd G F T M m 0 := ⟨fun X e c _ h => (by cases h), fun X e c _ h => (by cases h), fun X es c _ h => (by cases h), fun X e c _ h => (by cases h)⟩
theorem map_some {α β : Type} {f : α → β} {o : Option α} {b : β} (h : o.map f = some b) : ∃ a, o = some a ∧ f a = b := by
  cases o with
  | none => cases h
  | some a => exact ⟨a, rfl, Option.some.inj h⟩
theorem cmp_cases {n : Nat} {N : List Str} {sc : Scope} {a : Expr} {ops : List CmpOp} {cs : List Expr} {pos : Pos} {c : C} (h : cE M (n + 1) N sc (.Compare a ops cs pos) = some c) :
    (∃ b x, ops = [.Is] ∧ cs = [b] ∧ noneC b = true ∧ cE M n N sc a = some x ∧ c = .isN x) ∨ (∃ b x, ops = [.IsNot] ∧ cs = [b] ∧ noneC b = true ∧ cE M n N sc a = some x ∧ c = .notN x) ∨
    (∃ op b o x y, ops = [op] ∧ cs = [b] ∧ cmpOf op = some o ∧ argE b = true ∧ cE M n N sc a = some x ∧ cE M n N sc b = some y ∧ c = .cmp o x y) ∨
    ∃ b d x y z, ops = [.LtE, .Lt] ∧ cs = [b, d] ∧ argE b = true ∧ argE d = true ∧ cE M n N sc a = some x ∧ cE M n N sc b = some y ∧ cE M n N sc d = some z ∧ c = .chain .le .lt x y z := by
  cases ops with
  | nil => simp only [cE] at h; cases h
  | cons op ops =>
    cases ops with
    | nil =>
      cases cs with
      | nil => simp only [cE] at h; cases h
      | cons b cs =>
        cases cs with
        | cons _ _ => simp only [cE] at h; cases h
        | nil =>
          simp only [cE] at h
          split at h
          · rename_i x h1 h2
            cases h
            exact .inl ⟨b, x, rfl, rfl, h1, h2, rfl⟩
          · rename_i x h1 h2
            cases h
            exact .inr (.inl ⟨b, x, rfl, rfl, h1, h2, rfl⟩)
          · rename_i x h1 _ _
            split at h
            · rename_i o y h2 h3 h4
              cases h
              exact .inr (.inr (.inl ⟨_, b, o, _, y, rfl, rfl, h2, h3, by assumption, h4, rfl⟩))
            · cases h
          · cases h
    | cons op2 ops =>
      cases ops with
      | cons _ _ => cases op <;> cases op2 <;> (simp only [cE] at h; cases h)
      | nil =>
        cases cs with
        | nil => cases op <;> cases op2 <;> (simp only [cE] at h; cases h)
        | cons b cs =>
          cases cs with
          | nil => cases op <;> cases op2 <;> (simp only [cE] at h; cases h)
          | cons d cs =>
            cases cs with
            | cons _ _ => cases op <;> cases op2 <;> (simp only [cE] at h; cases h)
            | nil =>
              cases op <;> try (simp only [cE] at h; cases h; done)
              cases op2 <;> try (simp only [cE] at h; cases h; done)
              simp only [cE] at h
              split at h
              · rename_i x y z h1 h2 h3 h4
                cases h
                obtain ⟨g1, g2⟩ := Bool.and_eq_true_iff.mp h1
                exact .inr (.inr (.inr ⟨b, d, x, y, z, rfl, rfl, g1, g2, h2, h3, h4, rfl⟩))
              · cases h
theorem bool_cases {n : Nat} {N : List Str} {sc : Scope} {op : BoolOp} {vs : List Expr} {pos : Pos} {c : C} (h : cE M (n + 1) N sc (.BoolOp op vs pos) = some c) :
    (∃ a, vs = [a] ∧ cE M n N sc a = some c) ∨ ∃ a b r x y, vs = a :: b :: r ∧ cE M n N sc a = some x ∧ cE M n N sc (.BoolOp op (b :: r) pos) = some y ∧ ((op = .And ∧ c = .and x y) ∨ (op = .Or ∧ c = .or x y)) := by
  cases vs with
  | nil => simp only [cE] at h; cases h
  | cons a vs =>
    cases vs with
    | nil => exact .inl ⟨a, rfl, by simpa only [cE] using h⟩
    | cons b r =>
      simp only [cE] at h
      split at h
      · rename_i x y h1 h2
        cases op
        · cases h; exact .inr ⟨a, b, r, x, y, rfl, h1, h2, .inl ⟨rfl, rfl⟩⟩
        · cases h; exact .inr ⟨a, b, r, x, y, rfl, h1, h2, .inr ⟨rfl, rfl⟩⟩
      · cases h
theorem sub_inv {sc : Scope} {a : Expr} {ok : Bool} {ca cb : Option C} {c : C} (h : subC M sc a ok ca cb = some c) :
    ok = true ∧ ∃ y, cb = some y ∧ ((∃ x p j, a = .Name x p ∧ okName x = true ∧ glB sc x = true ∧ M.tid.lookup x = some j ∧ c = .kget j y) ∨ ∃ z, ca = some z ∧ c = .ix z y) := by
  unfold subC at h
  split at h
  · refine ⟨rfl, _, rfl, ?_⟩
    split at h
    · rename_i x p
      split at h
      · rename_i j h3 h4
        cases h
        obtain ⟨g1, g2⟩ := Bool.and_eq_true_iff.mp h3
        exact .inl ⟨_, _, j, rfl, g1, g2, h4, rfl⟩
      · obtain ⟨z, h5, rfl⟩ := map_some h
        exact .inr ⟨z, h5, rfl⟩
    · obtain ⟨z, h5, rfl⟩ := map_some h
      exact .inr ⟨z, h5, rfl⟩
  · cases h
theorem sub_cases {n : Nat} {N : List Str} {sc : Scope} {a b : Expr} {pos : Pos} {c : C} (h : cE M (n + 1) N sc (.Subscript a b pos) = some c) :
    (∃ lo hi p2 x l g, b = .Slice lo hi none p2 ∧ cE M n N sc a = some x ∧ cO M n N sc lo = some l ∧ cO M n N sc hi = some g ∧ c = .slice x l g) ∨ subC M sc a (argE b) (cE M n N sc a) (cE M n N sc b) = some c := by
  cases b <;> try (exact .inr h)
  case Slice lo hi st p2 =>
    cases st with
    | some _ => exact .inr h
    | none =>
      have h2 : (match cE M n N sc a, cO M n N sc lo, cO M n N sc hi with
        | some x, some l, some h => some (C.slice x l h)
        | _, _, _ => none) = some c := h
      split at h2
      · rename_i x l g h1 h2 h3
        cases h2
        exact .inl ⟨lo, hi, p2, x, l, g, rfl, h1, by assumption, h3, rfl⟩
      · cases h2
theorem isF1_inv {x : Str} {f : Fn1} (h : isF1 x = some f) : (x = "len" ∧ f = .len) ∨ (x = "any" ∧ f = .any) ∨ (x = "all" ∧ f = .all) ∨ (x = "list" ∧ f = .list) ∨ (x = "dict" ∧ f = .dict) := by
  unfold isF1 at h
  split at h
  · cases h; exact .inl ⟨by assumption, rfl⟩
  · split at h
    · cases h; exact .inr (.inl ⟨by assumption, rfl⟩)
    · split at h
      · cases h; exact .inr (.inr (.inl ⟨by assumption, rfl⟩))
      · split at h
        · cases h; exact .inr (.inr (.inr (.inl ⟨by assumption, rfl⟩)))
        · split at h
          · cases h; exact .inr (.inr (.inr (.inr ⟨by assumption, rfl⟩)))
          · cases h
theorem isM1_inv {x : Str} {f : Mt1} (h : isM1 x = some f) : (x = "startswith" ∧ f = .startswith) ∨ (x = "strip" ∧ f = .strip) ∨ (x = "split" ∧ f = .split) ∨ (x = "join" ∧ f = .join) := by
  unfold isM1 at h
  split at h
  · cases h; exact .inl ⟨by assumption, rfl⟩
  · split at h
    · cases h; exact .inr (.inl ⟨by assumption, rfl⟩)
    · split at h
      · cases h; exact .inr (.inr (.inl ⟨by assumption, rfl⟩))
      · split at h
        · cases h; exact .inr (.inr (.inr ⟨by assumption, rfl⟩))
        · cases h
theorem all_one {P : Expr → Bool} {a : Expr} (h : [a].all P = true) : P a = true := by simpa using h
theorem one_cases {ce : Expr → Option C} {x : Str} {f : Fn1} {a : Expr} {c : C} (h : oneC x f a ce = some c) :
    (∃ o apos cpos2 y, x = "list" ∧ a = .Call (.Attribute o "items" apos) [] [] cpos2 ∧ apos.endLine = cpos2.line ∧ recvE o = true ∧ ce o = some y ∧ c = .items y) ∨ ∃ y, ce a = some y ∧ c = .f1 f y := by
  unfold oneC at h
  split at h
  · rename_i o m apos cpos2 h1
    split at h
    · rename_i hh
      obtain ⟨y, h2, rfl⟩ := map_some h
      obtain ⟨rfl, h3, h4⟩ := hh
      exact .inl ⟨o, apos, cpos2, y, of_decide_eq_true h1, rfl, h3, h4, h2, rfl⟩
    · cases h
  · obtain ⟨y, h2, rfl⟩ := map_some h
    exact .inr ⟨y, h2, rfl⟩
theorem isi_cases {t : Str} {o : Option C} {c : C} (h : isiC t o = some c) : ∃ y, o = some y ∧ ((t = "str" ∧ c = .f1 .isStr y) ∨ (t = "int" ∧ c = .f1 .isInt y) ∨ (t = "bool" ∧ c = .f1 .isBool y)) := by
  unfold isiC at h
  split at h
  · obtain ⟨y, h2, rfl⟩ := map_some h; exact ⟨y, h2, .inl ⟨by assumption, rfl⟩⟩
  · split at h
    · obtain ⟨y, h2, rfl⟩ := map_some h; exact ⟨y, h2, .inr (.inl ⟨by assumption, rfl⟩)⟩
    · split at h
      · obtain ⟨y, h2, rfl⟩ := map_some h; exact ⟨y, h2, .inr (.inr ⟨by assumption, rfl⟩)⟩
      · cases h
theorem snd_callN {n : Nat} (S : Snd G F T M m n) (hF : ∀ ds d, F 0 ds = some d → ∃ fs, d = .ins 0 fs) {X : Cx} {x : Str} {p pos : Pos} {es : List Expr} {c : C} (Fx : Facts X G F T M m)
    (h : callN M X.env.scope x es (cE M n X.N X.env.scope) (cL M n X.N X.env.scope es) = some c) : PE X (.Call (.Name x p) es [] pos) (tC G F X.K T c) := by
  unfold callN at h
  split at h
  · rename_i hh
    obtain ⟨ok, hg, he⟩ := hh
    split at h
    · rename_i f hf
      obtain ⟨cl, h1, rfl⟩ := map_some h
      cases es with
      | nil =>
        cases n with
        | zero => simp only [cL] at h1; cases h1
        | succ n => simp only [cL] at h1; cases h1; exact q_call0 Fx ok hg hf
      | cons a es => exact q_call Fx ok hg he hf (S.L X _ _ Fx h1)
    · split at h
      · rename_i hx
        obtain ⟨cl, h1, rfl⟩ := map_some h
        cases es with
        | nil =>
          cases n with
          | zero => simp only [cL] at h1; cases h1
          | succ n => simp only [cL] at h1; cases h1; exact q_new0 Fx hF ok hg hx
        | cons a es => exact q_new Fx hF ok hg he hx (S.L X _ _ Fx h1)
      · split at h
        · rename_i a
          split at h
          · rename_i f hf
            rcases one_cases h with ⟨o, apos, cpos2, y, rfl, rfl, h3, h4, h5, rfl⟩ | ⟨y, h2, rfl⟩
            · exact q_items (lpos := pos) Fx hg h4 h3 (S.E X o _ Fx h5)
            · have ha := all_one he
              rcases isF1_inv hf with ⟨rfl, rfl⟩ | ⟨rfl, rfl⟩ | ⟨rfl, rfl⟩ | ⟨rfl, rfl⟩ | ⟨rfl, rfl⟩
              · exact q_len Fx hg ha (S.E X a _ Fx h2)
              · exact q_any Fx hg ha (S.E X a _ Fx h2)
              · exact q_all Fx hg ha (S.E X a _ Fx h2)
              · exact q_list Fx hg ha (S.E X a _ Fx h2)
              · exact q_dict Fx hg ha (S.E X a _ Fx h2)
          · cases h
        · rename_i a t tp
          split at h
          · rename_i hh
            obtain ⟨rfl, hgt, okt⟩ := hh
            obtain ⟨y, h1, ⟨rfl, rfl⟩ | ⟨rfl, rfl⟩ | ⟨rfl, rfl⟩⟩ := isi_cases h
            · exact q_isi Fx hg hgt okt (by decide +kernel) (Fx.blt _ (by decide)) PyProof.Rows.boot_str (by simpa using he : argE a = true ∧ _).1 isi_str (S.E X a _ Fx h1)
            · exact q_isi Fx hg hgt okt (by decide +kernel) (Fx.blt _ (by decide)) PyProof.Rows.boot_int (by simpa using he : argE a = true ∧ _).1 isi_int (S.E X a _ Fx h1)
            · exact q_isi Fx hg hgt okt (by decide +kernel) (Fx.blt _ (by decide)) boot_bool (by simpa using he : argE a = true ∧ _).1 isi_bool (S.E X a _ Fx h1)
          · cases h
        · cases h
  · cases h
theorem snd_callA {n : Nat} (S : Snd G F T M m n) {X : Cx} {x : Str} {o : Expr} {apos cpos : Pos} {es : List Expr} {c : C} (Fx : Facts X G F T M m)
    (h : callA M o x (decide (apos.endLine = cpos.line)) es (cE M n X.N X.env.scope) (cL M n X.N X.env.scope es) = some c) : PE X (.Call (.Attribute o x apos) es [] cpos) (tC G F X.K T c) := by
  unfold callA at h
  split at h
  · rename_i hh
    obtain ⟨hr, he, hl⟩ := hh
    have hl := of_decide_eq_true hl
    split at h
    · rename_i f hf
      split at h
      · rename_i y ds hn h1 h2
        cases h
        cases es with
        | nil =>
          cases n with
          | zero => simp only [cL] at h2; cases h2
          | succ n => simp only [cL] at h2; cases h2; exact q_meth0 Fx hr hl hf (S.E X o _ Fx h1)
        | cons a es => exact q_meth Fx hr hl (of_decide_eq_true hn) he hf (S.E X o _ Fx h1) (S.L X _ _ Fx h2)
      · cases h
    · split at h
      · rename_i a
        have ha := all_one he
        split at h
        · rename_i y z h1 h2
          split at h
          · rename_i hx
            cases h
            subst hx
            exact q_dget1 Fx hr ha hl (S.E X o _ Fx h1) (S.E X a _ Fx h2)
          · obtain ⟨f, h3, rfl⟩ := map_some h
            rcases isM1_inv h3 with ⟨rfl, rfl⟩ | ⟨rfl, rfl⟩ | ⟨rfl, rfl⟩ | ⟨rfl, rfl⟩
            · exact q_starts hr ha hl (S.E X o _ Fx h1) (S.E X a _ Fx h2)
            · exact q_strip hr ha hl (S.E X o _ Fx h1) (S.E X a _ Fx h2)
            · exact q_split hr ha hl (S.E X o _ Fx h1) (S.E X a _ Fx h2)
            · exact q_join hr ha hl (S.E X o _ Fx h1) (S.E X a _ Fx h2)
        · cases h
      · rename_i a b
        split at h
        · rename_i hx
          subst hx
          split at h
          · rename_i y z w h1 h2 h3
            cases h
            have hb : argE a = true ∧ argE b = true := by simpa using he
            exact q_dget2 Fx hr hb.1 hb.2 hl (S.E X o _ Fx h1) (S.E X a _ Fx h2) (S.E X b _ Fx h3)
          · cases h
        · cases h
      · cases h
  · cases h
theorem snd_lc {n : Nat} (S : Snd G F T M m n) {X : Cx} {y : Str} {py pos : Pos} {elt iter : Expr} {ifs : List Expr} {scope : Scope} {c : C} (Fx : Facts X G F T M m)
    (h : lcC X.N X.env.scope scope y iter ifs (cE M n X.N X.env.scope iter) (cE M n X.N (relS scope X.env.scope) elt) (cE M n X.N (relS scope X.env.scope)) = some c) :
    PE X (.ListComp elt [⟨.Name y py, iter, ifs, 0⟩] scope pos) (tC G F X.K T c) := by
  unfold lcC at h
  split at h
  · rename_i i it h1 h2 h3
    split at h
    · rename_i hh
      split at h
      · rename_i e h4
        split at h
        · cases h
          exact q_lcomp Fx (ixOf_ok h1) h2 hh.1 hh.2 (S.E X iter _ Fx h3) (fun X' Fx' eN eK eS => by rw [← eK]; exact S.E X' _ _ Fx' (by rw [eN, eS]; exact h4)) fun X' _ _ eK _ => by rw [← eK]; exact q_tnone
        · rename_i t
          split at h
          · rename_i t' h5
            cases h
            exact q_lcomp Fx (ixOf_ok h1) h2 hh.1 hh.2 (S.E X iter _ Fx h3) (fun X' Fx' eN eK eS => by rw [← eK]; exact S.E X' _ _ Fx' (by rw [eN, eS]; exact h4)) fun X' Fx' eN eK eS => by rw [← eK]; exact q_tsome (S.P X' _ _ Fx' (by rw [eN, eS]; exact h5))
          · cases h
        · cases h
      · cases h
    · cases h
  · cases h
theorem snd_E {n : Nat} (S : Snd G F T M m n) (hF : ∀ ds d, F 0 ds = some d → ∃ fs, d = .ins 0 fs) (X : Cx) (e : Expr) (c : C) (Fx : Facts X G F T M m) (h : cE M (n + 1) X.N X.env.scope e = some c) : PE X e (tC G F X.K T c) := by
  cases e <;> (try simp only [cE] at h) <;> try (cases h; done)
  case Name x pos =>
    split at h
    · rename_i ok
      split at h
      · rename_i hv
        obtain ⟨i, h1, rfl⟩ := map_some h
        exact q_name Fx ok hv (ixOf_ok h1)
      · split at h
        · rename_i hg
          obtain ⟨i, h1, rfl⟩ := map_some h
          exact q_glo Fx ok hg h1
        · cases h
    · cases h
  case Constant v k pos =>
    split at h
    · cases h; exact q_cst pe_non fun _ => .non
    · cases h; exact q_cst pe_bl fun _ => .bl _
    · cases h; exact q_cst pe_int fun _ => .int _
    · obtain ⟨l, h1, rfl⟩ := map_some h
      rw [← chOf_toS h1]
      exact q_cst pe_str fun _ => .str _
    · cases h
  case Tuple es k pos =>
    obtain ⟨l, h1, rfl⟩ := map_some h
    exact q_tup (S.L X es l Fx h1)
  case List es pos =>
    obtain ⟨l, h1, rfl⟩ := map_some h
    exact q_lst (S.L X es l Fx h1)
  case BinOp a op b pos =>
    split at h
    · rename_i o x y h1 h2 h3
      cases h
      exact q_bin h1 (S.E X a _ Fx h2) (S.E X b _ Fx h3)
    · cases h
  case UnaryOp op a pos =>
    split at h
    · rename_i x h1 h2
      cases h
      exact q_not (S.E X a _ Fx h2)
    · rename_i x h1 h2
      cases h
      exact q_neg (S.E X a _ Fx h2)
    · cases h
  case Compare a ops cs pos =>
    rcases cmp_cases (n := n) (pos := pos) (by simpa only [cE] using h) with ⟨b, x, rfl, rfl, h1, h2, rfl⟩ | ⟨b, x, rfl, rfl, h1, h2, rfl⟩ | ⟨op, b, o, x, y, rfl, rfl, h1, h2, h3, h4, rfl⟩ | ⟨b, d, x, y, z, rfl, rfl, h1, h2, h3, h4, h5, rfl⟩
    · exact (q_isN h1 (S.E X a _ Fx h2)).1
    · exact (q_notN h1 (S.E X a _ Fx h2)).1
    · exact (q_cmp Fx h1 h2 (S.E X a _ Fx h3) (S.E X b _ Fx h4)).1
    · exact (q_chain h1 h2 (S.E X a _ Fx h3) (S.E X b _ Fx h4) (S.E X d _ Fx h5)).1
  case BoolOp op vs pos =>
    rcases bool_cases (n := n) (pos := pos) (by simpa only [cE] using h) with ⟨a, rfl, h1⟩ | ⟨a, b, r, x, y, rfl, h1, h2, ⟨rfl, rfl⟩ | ⟨rfl, rfl⟩⟩
    · exact pe_one (S.E X a _ Fx h1)
    · exact q_and (S.E X a _ Fx h1) (S.E X _ _ Fx h2)
    · exact q_or (S.E X a _ Fx h1) (S.E X _ _ Fx h2)
  case IfExp t a b pos =>
    split at h
    · rename_i x y z h1 h2 h3
      cases h
      exact q_ite (S.P X t _ Fx h1) (S.E X a _ Fx h2) (S.E X b _ Fx h3)
    · cases h
  case Attribute o f pos =>
    split at h
    · rename_i i x h1 h2 h3
      cases h
      exact q_attr Fx h1 (ixOf_ok h2) (S.E X o _ Fx h3)
    · cases h
  case Dict ks vs pos =>
    split at h
    · split at h
      · split at h
        · rename_i x as bs h1 h2 h3
          split at h
          · rename_i hh
            cases h
            exact q_dstar Fx h2 h3 hh.1 hh.2.1 hh.2.2.1 hh.2.2.2 (S.E X _ _ Fx h1)
          · cases h
        · cases h
      · cases h
    · split at h
      · rename_i as bs h1 h2
        split at h
        · rename_i hh
          cases h
          exact q_cdic h1 h2 hh.1 hh.2.1 hh.2.2.1 hh.2.2.2
        · cases h
      · cases h
  case Subscript a b pos =>
    rcases sub_cases (n := n) (pos := pos) h with ⟨lo, hi, p2, x, l, g, rfl, h1, h2, h3, rfl⟩ | hh
    · exact q_slice (S.E X a _ Fx h1) (S.O X lo _ Fx h2) (S.O X hi _ Fx h3)
    · obtain ⟨h1, y, h2, ⟨x, p, j, rfl, h3, h4, h5, rfl⟩ | ⟨z, h3, rfl⟩⟩ := sub_inv hh
      · exact q_kget Fx h3 h4 h5 h1 (S.E X b _ Fx h2)
      · exact q_ix Fx h1 (S.E X a _ Fx h3) (S.E X b _ Fx h2)
  case Call f es kws pos =>
    cases kws with
    | cons _ _ => cases f <;> cases h
    | nil =>
      cases f <;> (try simp only [cE] at h) <;> try (cases h; done)
      case Name x p => exact snd_callN S hF Fx h
      case Attribute o x apos => exact snd_callA S Fx h
  case ListComp elt gs scope pos =>
    rcases gs with _ | ⟨⟨tg, iter, ifs, as⟩, _ | ⟨g2, gs⟩⟩
    · cases (show (Option.none : Option C) = some c from h)
    · cases tg <;> try (cases (show (Option.none : Option C) = some c from h); done)
      by_cases h0 : as = 0
      · subst h0
        exact snd_lc S Fx h
      · exfalso
        split at h <;> rename_i e1 <;> try (cases e1; done)
        · cases e1
          exact h0 rfl
        · cases h
    · exfalso
      split at h <;> rename_i e1 <;> try (cases e1; done)
      cases h
end
end Rp
namespace Rp
open PySem PySem.Spec PyProof.Rows L2
section
variable {G : Gt} {F : Ft} {T : Cl} {M : Nm} {m : Nat}
theorem snd_W {n : Nat} (S : Snd G F T M m n) (W : ∀ (X : Cx) (op : BoolOp) (vs : List Expr) (pos : Pos) (c : C), Facts X G F T M m → cE M n X.N X.env.scope (.BoolOp op vs pos) = some c → PW X (.BoolOp op vs pos) (tK G F X.K T c))
    (X : Cx) (op : BoolOp) (vs : List Expr) (pos : Pos) (c : C) (Fx : Facts X G F T M m) (h : cE M (n + 1) X.N X.env.scope (.BoolOp op vs pos) = some c) : PW X (.BoolOp op vs pos) (tK G F X.K T c) := by
  rcases bool_cases (n := n) (pos := pos) h with ⟨a, rfl, h1⟩ | ⟨a, b, r, x, y, rfl, h1, h2, ⟨rfl, rfl⟩ | ⟨rfl, rfl⟩⟩
  · cases op
    · exact pw_and1 (S.P X a _ Fx h1)
    · exact pw_or1 (S.P X a _ Fx h1)
  · exact k_and (S.P X a _ Fx h1) (W X _ _ _ _ Fx h2)
  · exact k_or (S.P X a _ Fx h1) (W X _ _ _ _ Fx h2)
theorem snd_P {n : Nat} (S : Snd G F T M m n) (hF : ∀ ds d, F 0 ds = some d → ∃ fs, d = .ins 0 fs) (W : ∀ (X : Cx) (op : BoolOp) (vs : List Expr) (pos : Pos) (c : C), Facts X G F T M m → cE M n X.N X.env.scope (.BoolOp op vs pos) = some c → PW X (.BoolOp op vs pos) (tK G F X.K T c))
    (X : Cx) (e : Expr) (c : C) (Fx : Facts X G F T M m) (h : cE M (n + 1) X.N X.env.scope e = some c) : PT X e (tK G F X.K T c) := by
  cases hp : plainT e with
  | true => exact k_val hp (snd_E S hF X e c Fx h)
  | false =>
    cases e <;> try (cases hp; done)
    case BoolOp op vs pos => exact (snd_W S W X op vs pos c Fx h).pt
    case UnaryOp op a pos =>
      cases op <;> try (cases hp; done)
      simp only [cE] at h
      split at h
      · rename_i x h1 h2
        cases h
        exact k_not (S.P X a _ Fx h2)
      · rename_i h1 _
        cases h1
      · cases h
    case Compare a ops cs pos =>
      rcases cmp_cases (n := n) (pos := pos) h with ⟨b, x, rfl, rfl, h1, h2, rfl⟩ | ⟨b, x, rfl, rfl, h1, h2, rfl⟩ | ⟨op, b, o, x, y, rfl, rfl, h1, h2, h3, h4, rfl⟩ | ⟨b, d, x, y, z, rfl, rfl, h1, h2, h3, h4, h5, rfl⟩
      · exact (q_isN h1 (S.E X a _ Fx h2)).2
      · exact (q_notN h1 (S.E X a _ Fx h2)).2
      · exact (q_cmp Fx h1 h2 (S.E X a _ Fx h3) (S.E X b _ Fx h4)).2
      · exact (q_chain h1 h2 (S.E X a _ Fx h3) (S.E X b _ Fx h4) (S.E X d _ Fx h5)).2
    case IfExp t a b pos =>
      simp only [cE] at h
      split at h
      · rename_i x y z h1 h2 h3
        cases h
        exact k_ite (S.P X t _ Fx h1) (S.P X a _ Fx h2) (S.P X b _ Fx h3)
      · cases h
theorem l_cases {n : Nat} {N : List Str} {sc : Scope} {e : Expr} {r : List Expr} {c : CL} (h : cL M (n + 1) N sc (e :: r) = some c) :
    (∃ a p x y, e = .Starred a p ∧ cE M n N sc a = some x ∧ cL M n N sc r = some y ∧ c = .star x y) ∨ ∃ x y, argE e = true ∧ cE M n N sc e = some x ∧ cL M n N sc r = some y ∧ c = .cons x y := by
  have main : ∀ {b : Bool} {o1 : Option C} {o2 : Option CL}, (match b, o1, o2 with
        | true, some x, some y => some (CL.cons x y)
        | _, _, _ => none) = some c → ∃ x y, b = true ∧ o1 = some x ∧ o2 = some y ∧ c = .cons x y := by
    intro b o1 o2 h
    cases b with
    | false => cases h
    | true =>
      cases o1 with
      | none => cases h
      | some x =>
        cases o2 with
        | none => cases h
        | some y => cases h; exact ⟨x, y, rfl, rfl, rfl, rfl⟩
  cases e <;> try (exact .inr (main (b := argE _) (o1 := cE M n N sc _) (o2 := cL M n N sc r) h))
  case Starred a p =>
    simp only [cL] at h
    split at h
    · rename_i x y h1 h2
      cases h
      exact .inl ⟨a, p, x, y, rfl, h1, h2, rfl⟩
    · cases h
theorem snd_L {n : Nat} (S : Snd G F T M m n) (X : Cx) (es : List Expr) (c : CL) (Fx : Facts X G F T M m) (h : cL M (n + 1) X.N X.env.scope es = some c) : PA X es (tL G F X.K T c) := by
  cases es with
  | nil => simp only [cL] at h; cases h; exact q_lnil
  | cons e r =>
    rcases l_cases h with ⟨a, p, x, y, rfl, h1, h2, rfl⟩ | ⟨x, y, h0, h1, h2, rfl⟩
    · exact q_lstar (S.E X a _ Fx h1) (S.L X r _ Fx h2)
    · exact q_lcons h0 (S.E X e _ Fx h1) (S.L X r _ Fx h2)
theorem snd_O {n : Nat} (S : Snd G F T M m n) (X : Cx) (e : Option Expr) (c : CO) (Fx : Facts X G F T M m) (h : cO M (n + 1) X.N X.env.scope e = some c) : PO X e (tO G F X.K T c) := by
  cases e with
  | none => simp only [cO] at h; cases h; exact q_onone
  | some e =>
    simp only [cO] at h
    obtain ⟨x, h1, rfl⟩ := map_some h
    exact q_osome (S.E X e _ Fx h1)
theorem snd_all (hF : ∀ ds d, F 0 ds = some d → ∃ fs, d = .ins 0 fs) : ∀ n, Snd G F T M m n ∧ ∀ (X : Cx) (op : BoolOp) (vs : List Expr) (pos : Pos) (c : C), Facts X G F T M m → cE M n X.N X.env.scope (.BoolOp op vs pos) = some c → PW X (.BoolOp op vs pos) (tK G F X.K T c)
  | 0 => ⟨snd0, fun X op vs pos c _ h => (by cases h)⟩
  | n + 1 => let ⟨S, W⟩ := snd_all hF n
    ⟨⟨snd_E S hF, snd_P S hF W, snd_L S, snd_O S⟩, snd_W S W⟩
theorem snd_ok (hF : ∀ ds d, F 0 ds = some d → ∃ fs, d = .ins 0 fs) (n : Nat) : Snd G F T M m n := (snd_all hF n).1
end
end Rp
namespace Rp
open PySem PySem.Spec PyProof.Rows L2
/-- a text's signs, each in a new pair -/
def ItE (x : Str) : It :=
  ⟨fun i _ => i < x.cps.size, fun i H v H' => ∃ T c, v = .ref T ∧ H T = none ∧ H' = upd H T (.tup [.int (i : Nat), .str ⟨#[c]⟩]) ∧ x.cps[i]? = some c, fun i _ => i = x.cps.size⟩
theorem turn_enumS {P : Program} {w : World} {K : PySem.W.Frag} {elts : List Expr} {kk : Nat} {tpos : Pos} (x : Str) (t : Tok) (e it : Addr) :
    Turn P w K (.Tuple elts kk tpos) (ItE x) [e, it] e (fun i h => (∃ old, IsEnum h e it ((i : Nat) : Int) old) ∧ h.IsStrIter it (strIterType x) x t i ∧ e ≠ it) where
  mem := by simp
  obj := fun i h st b hb => by
    obtain ⟨⟨old, he⟩, ⟨o, ho, hc, hd⟩, _⟩ := st
    have e' : b = e ∨ b = it := by simpa using hb
    rcases e' with z | z
    · rw [z]; exact ⟨_, he, fun v q => nomatch q⟩
    · rw [z]; exact ⟨o, ho, fun v q => by rw [hd] at q; cases q⟩
  keep := fun i h h' st k => let ⟨⟨old, he⟩, ⟨o, ho, r⟩, hne⟩ := st; ⟨⟨old, k e (by simp) _ he⟩, ⟨o, k it (by simp) o ho, r⟩, hne⟩
  item := by
    intro X hP hw hK hc i pins s σ H E I hf st hg
    subst hP hw hK
    obtain ⟨⟨old, he⟩, hit, hne⟩ := st
    have hel : e < s.heap.objs.size := Heap.lt_size he
    have hil : it < s.heap.objs.size := by obtain ⟨_, q, _⟩ := hit; exact Heap.lt_size q
    refine wpAny_pyNext_enum_itemD (Draws.text (A := X.A.in1) (I.ok.hd hc) it x t) he hit hg hne (by simpa using hne) fun u h' tk hu ho hit' hT hsz hk => ?_
    obtain ⟨c, u', hcx, rfl⟩ := hu
    refine ⟨_, rfl, wpAny_letOwnedTupleGo_enum (s := { s with heap := h', toks := tk + 1 }) ho fun h'' he' sb => ?_⟩
    have hT2 : h''.get? s.heap.objs.size = some { cls := .type "tuple", data := .seq #[.int i tk, .str ⟨#[c]⟩ u'] } := (sb.2 _ (Nat.ne_of_gt hel)).trans hT
    have new : ObjOk X.prog X.w (upd H s.heap.objs.size (.tup [.int (i : Nat), .str ⟨#[c]⟩])) h'' s.heap.objs.size (.tup [.int (i : Nat), .str ⟨#[c]⟩]) :=
      ⟨by show 2 ≤ sizeLine; decide, [.int i tk, .str ⟨#[c]⟩ u'], .cons ⟨_, rfl⟩ (.cons ⟨_, rfl⟩ .nil), ⟨_, hT2, rfl, _, rfl⟩⟩
    have I1 : Inv X pins σ (upd H s.heap.objs.size (.tup [.int (i : Nat), .str ⟨#[c]⟩])) { s with heap := h'', toks := tk + 1 } :=
      I.turnedNew (ch := [e, it]) (fun b ob hb q => (sb.2 b (fun z => hb (by simp [z]))).trans (hk b ob (fun z => hb (by simp [z])) (fun z => hb (by simp [z])) q)) hf (Nat.le_refl _) new
    refine ⟨.ref s.heap.objs.size, _, I1, rfl, ⟨_, c, rfl, I.hok.fresh (Nat.le_refl _), rfl, hcx⟩, ⟨⟨.str ⟨#[c]⟩ u', ?_⟩, ?_, hne⟩, fun b hb => ?_⟩
    · have e1 : ((i + 1 : Nat) : Int) = (i : Int) + 1 := by omega
      rw [e1]; exact he'
    · obtain ⟨o, q, r⟩ := hit'
      exact ⟨o, (sb.2 it (Ne.symm hne)).trans q, r⟩
    · have hb' : b < s.heap.objs.size := by
        have e' : b = e ∨ b = it := by simpa using hb
        rcases e' with z | z
        · rw [z]; exact hel
        · rw [z]; exact hil
      rw [upd_ne (Nat.ne_of_lt hb')]
      exact (hf b hb).1
  done := by
    intro X hP hw hK hc i pins s σ H E I hf st hg
    subst hP hw hK
    obtain ⟨⟨old, he⟩, hit, hne⟩ := st
    obtain ⟨f0, f1, f2, f3, f4, f5⟩ := hf it (by simp)
    have hg : i = x.cps.size := hg
    subst hg
    exact wpAny_pyNext_enum_endD (Draws.text (A := X.A.in1) (I.ok.hd hc) it x t) he hit fun h' eb => ⟨rfl, I.turned (t' := s.toks) (fun b o hb q => eb b o hb q) f0 f1 f3 f4 f5⟩
  self := fun A i s Q E st h => let ⟨⟨_, he⟩, _⟩ := st; wpAny_pyIter_enum he h
def iEnumS (ta : TA) : TI := fun σ H R => ta σ H fun vs H1 => ∃ x, vs = [.str x] ∧ R (ItE x) H1
theorem pi_enumS {X : Cx} {e : Expr} {ta : TA} {p pos tpos : Pos} {elts : List Expr} {kk : Nat} (hg : Gl X "enumerate") (hm : X.mg "enumerate" = none) (ha : PA X [e] ta) (hs : starEach [e] X.env = [(false, eval e X.env)] := by rfl) :
    PI X (.Tuple elts kk tpos) (.Call (.Name "enumerate" p) [e] [] pos) (iEnumS ta) := by
  refine ⟨fun pins s σ H R I h => ?_⟩
  refine Call_ (ld_blt I hg hm boot_enumerate (PyProof.Rows.callWith_type1 (thn (ha.run pos pins s σ H _ I h) fun us s1 ⟨vs, H1, I1, r1, q1⟩ => ?_) hs rfl))
  obtain ⟨x, ex, q⟩ := q1
  subst ex
  cases r1 with
  | cons r rr =>
    cases rr
    obtain ⟨t, rfl⟩ := r
    refine call_enumerate_str fun h' he hit hsz hk => wpAny_pyIter_enum he ?_
    have I2 : Inv X pins σ H1 { s1 with heap := h' } := I1.kept (t' := s1.toks) hk
    refine ⟨s1.heap.objs.size + 1, [s1.heap.objs.size + 1, s1.heap.objs.size], _, _, H1, rfl, I2, turn_enumS x t (s1.heap.objs.size + 1) s1.heap.objs.size, ⟨⟨.none, he⟩, hit, Nat.succ_ne_self _⟩, fun b hb => ?_, q⟩
    have e' : b = s1.heap.objs.size + 1 ∨ b = s1.heap.objs.size := by simpa using hb
    have hle : s1.heap.objs.size ≤ b := by
      rcases e' with z | z
      · rw [z]; exact Nat.le_add_right _ _
      · rw [z]; exact Nat.le_refl _
    exact I1.fpOk hle (I1.hok.fresh hle)
end Rp
namespace Rp
open PySem PySem.Spec PyProof.Rows L2
def Dn (K : PySem.W.Frag) (T : Cl) (D : Ends) (H : Hp) : Out → Prop
  | .inl ρ' => ∀ σ' H', Same H H' → RepS K T H' σ' ρ' → D.nx σ' H'
  | .inr d => Got K T H d D.rt
theorem Dn.mono {K : PySem.W.Frag} {T : Cl} {D : Ends} {H H' : Hp} {o : Out} (h : Dn K T D H o) (s : Same H H') : Dn K T D H' o := by
  cases o with
  | inl ρ' => exact fun σ' H2 s2 r => h σ' H2 (s.trans s2) r
  | inr d => exact fun v H2 s2 r => h v H2 (s.trans s2) r
def tS (G : Gt) (F : Ft) (K : PySem.W.Frag) (T : Cl) (c : S) : TS := fun D σ H => ∃ ρ o, RepS K T H σ ρ ∧ evS G F c ρ = some o ∧ Dn K T D H o
def tSL (G : Gt) (F : Ft) (K : PySem.W.Frag) (T : Cl) (c : SL) : TS := fun D σ H => ∃ ρ o, RepS K T H σ ρ ∧ evSL G F c ρ = some o ∧ Dn K T D H o
theorem _root_.L2.PS.wk {X : Cx} {e : Stmt} {t t' : TS} (h : PS X e t) (w : ∀ D σ H, t' D σ H → t D σ H) : PS X e t' := ⟨fun pins s σ H D I q => h.run pins s σ H D I (w D σ H q)⟩
theorem _root_.L2.PSs.wk {X : Cx} {e : List Stmt} {t t' : TS} (h : PSs X e t) (w : ∀ D σ H, t' D σ H → t D σ H) : PSs X e t' := ⟨fun pins s σ H D I q => h.run pins s σ H D I (w D σ H q)⟩
structure FS (X : Cx) (G : Gt) (F : Ft) (T : Cl) (M : Nm) (m : Nat) : Prop where
  fx : Facts X G F T M m
  fn : ∀ x, X.fn x = true
  kind : X.env.scope.kind = .function
  own : PassesOwn (model X.prog X.w) X.A X.env X.xe
section
variable {X : Cx} {G : Gt} {F : Ft} {T : Cl} {M : Nm} {m n : Nat} {pos p px py apos cpos : Pos} {a b c e o : Expr} {ca cb cc : C} {K : PySem.W.Frag} {es : List Expr} {cl : CL} {x y : Str} {i j : Nat}
theorem slot_inv {N : List Str} {sc : Scope} (h : slotB N sc x = some i) : locB sc x = true ∧ N[i]? = some x := by
  unfold slotB at h
  split at h
  · exact ⟨by assumption, ixOf_ok h⟩
  · cases h
theorem set_read {σ : L2.St} {H : Hp} {D : Ends} {g : TG} (he : ∀ v σ H, D.nx (σ.set i (some v)) H → g v σ H D.nx) (h : tS G F K T (.set i ca) D σ H) : tAsg (tC G F K T ca) g D σ H := by
  obtain ⟨ρ, o, rs, ev, k⟩ := h
  simp only [evS] at ev
  split at ev
  · rename_i d e1
    cases ev
    exact ⟨ρ, d, rs, e1, fun v H1 s1 r1 => he _ _ _ (k _ _ s1 ((rs.mono s1).set i r1))⟩
  · cases ev
theorem plain_swap {env : Env} {t : Option Expr} {l : Nat} (h : plainE e = true) : swapsWith e t l env = pure false := by
  cases e <;> first | rfl | (cases h; done)
theorem s_set (Fx : FS X G F T M m) (hi : slotB X.N X.env.scope x = some i) (hp : plainE e = true) (he : PE X e (tC G F X.K T ca)) : PS X (.Assign [.Name x px] e pos) (tS G F X.K T (.set i ca)) := by
  obtain ⟨h1, h2⟩ := slot_inv hi
  exact (ps_set Fx.fx.nd h2 (loc_of h1) he (plain_swap hp) (.inl (Fx.fn x))).wk fun D σ H h => set_read (fun v σ H q => q) h
theorem s_setLc {scope : Scope} {ifs : List Expr} {ct : CO} {k : Nat} {lpos : Pos} (Fx : FS X G F T M m) (hx : X.N[k]? = some x) (hxl : X.env.scope.names.lookup x = some .local) (hl : (px.line == lpos.line) = true)
    (hown : (scope.names.any fun (n, k) => n == x && (k == .local || k == .cell)) = false)
    (hi : X.N[i]? = some y) (hb0 : argE b = true) (hblk : blkC X.N X.env.scope scope [(y, i)] = true) (hy : locB scope y = true)
    (hit : PE X b (tC G F X.K T cb)) (he : ∀ X', Facts X' G F T M m → X'.N = X.N → X'.K = X.K → X'.env.scope = relS scope X.env.scope → PE X' a (tC G F X.K T ca)) (ht : ∀ X', Facts X' G F T M m → X'.N = X.N → X'.K = X.K → X'.env.scope = relS scope X.env.scope → PTs X' ifs (tQ G F X.K T ct)) :
    PS X (.Assign [.Name x px] (.ListComp a [⟨.Name y py, b, ifs, 0⟩] scope lpos) pos) (tS G F X.K T (.set k (.lcomp i cb ct ca))) := by
  have Fx0 := Fx.fx
  refine (ps_setLc (own := [(y, i)]) (g := gName i) (tt := tQ G F X.K T ct) (te := tC G F X.K T ca) Fx0.calm Fx0.nd hx hxl (sw_true Fx.kind hxl hl hown) ((pi_list hit).or ((pi_tup hit).or (pi_str hit))) (blkOk_by hblk) (fun s H C cl fp => ?_) (fun s H C cl fp => ?_) (fun s H C cl fp => ?_) (noFold hb0)).wk
    fun D σ H h => ?_
  · rcases loc_relS (sc := X.env.scope) hy with ⟨h1, h2⟩ | ⟨h1, h2⟩
    · exact pg_name Fx0.nd hi (.inl h2) (.inr h2)
    · refine pg_name Fx0.nd hi (.inr h2) (.inl ?_)
      show (scope.names.lookup y == some .cell) = true
      rw [h1]
      rfl
  · exact ht _ (Fx0.blk s H scope _ fp) rfl rfl rfl
  · exact he _ (Fx0.blk s H scope _ fp) rfl rfl rfl
  · obtain ⟨ρ, d, rs, e1, k⟩ := set_read (g := gName k) (fun v σ H q => q) h
    exact comp_all (tg := .Name y py) rs e1 k
/-- several names -/
def gNames : List Nat → TGs
  | [] => gNil
  | i :: is => gCons (gName i) (gNames is)
theorem names_ok (Fx : FS X G F T M m) : ∀ {ts : List Expr} {is : List Nat}, slotsOf X.N X.env.scope ts = some is → PGs X ts (gNames is) ∧ (assignEach ts X.env).length = is.length ∧ (assignEach ts X.env).findIdx? (·.1) = none
  | [], is, h => by
    cases (show some [] = some is from h)
    exact ⟨pgs_nil, rfl, rfl⟩
  | t :: ts, is, h => by
    unfold slotsOf at h
    split at h
    · rename_i e0
      cases e0
    · rename_i x p r e1
      cases e1
      split at h
      · rename_i i js h1 h2
        cases h
        obtain ⟨g1, g2⟩ := slot_inv h1
        obtain ⟨k1, k2, k3⟩ := names_ok Fx h2
        refine ⟨pgs_cons (pg_name Fx.fx.nd g2 (loc_of g1) (.inl (Fx.fn x))) k1, congrArg Nat.succ k2, ?_⟩
        show (List.findIdx? _ ((false, assign (.Name x p) X.env) :: assignEach ts X.env)) = none
        rw [List.findIdx?_cons, k3]
        rfl
      · cases h
    · cases h
theorem sets_read : ∀ {is : List Nat} {vs : List V} {ds : List D} {σ : L2.St} {H : Hp} {ρ ρ' : Ev} {Q : L2.St → Hp → Prop}, RepS K T H σ ρ → RepL K T H vs ds → setsD is ds ρ = some ρ' → (∀ σ', RepS K T H σ' ρ' → Q σ' H) → gNames is vs σ H Q
  | [], vs, ds, σ, H, ρ, ρ', Q, rs, rv, e, k => by
    cases ds with
    | nil =>
      cases rv
      cases (show some ρ = some ρ' from e)
      exact ⟨rfl, k _ rs⟩
    | cons _ _ => cases e
  | i :: is, vs, ds, σ, H, ρ, ρ', Q, rs, rv, e, k => by
    cases ds with
    | nil => cases e
    | cons d ds =>
      cases rv with
      | cons r1 r2 => exact ⟨_, _, rfl, sets_read (rs.set i r1) r2 e k⟩
theorem setsD_len : ∀ {is : List Nat} {ds : List D} {ρ ρ' : Ev}, setsD is ds ρ = some ρ' → ds.length = is.length
  | [], [], _, _, _ => rfl
  | i :: is, d :: ds, ρ, ρ', h => congrArg Nat.succ (setsD_len (is := is) (ds := ds) h)
  | [], _ :: _, _, _, h => by cases h
  | _ :: _, [], _, _, h => by cases h
theorem s_sets {ts : List Expr} {is : List Nat} {k : Nat} {tpos : Pos} (Fx : FS X G F T M m) (hs : slotsOf X.N X.env.scope ts = some is) (hw : swappedStores [.Tuple ts k tpos] e X.env = pure none) (hsw : swapsWithSole [.Tuple ts k tpos] e pos.line X.env = pure false) (he : PE X e (tC G F X.K T ca)) :
    PS X (.Assign [.Tuple ts k tpos] e pos) (tS G F X.K T (.sets is ca)) := by
  obtain ⟨g1, g2, g3⟩ := names_ok Fx hs
  refine (ps_asg he (pg_tup Fx.fx.calm g1 g2 g3) hsw hw rfl).wk fun D σ H ⟨ρ, o, rs, ev, k⟩ => ?_
  simp only [evS] at ev
  split at ev
  · rename_i ds e1
    split at ev
    · rename_i ρ' e2
      cases ev
      refine ⟨ρ, .tup ds, rs, e1, fun v H1 s1 r1 => ?_⟩
      obtain ⟨a, vs, rfl, hq, hv⟩ := rep_tup r1
      exact ⟨a, vs, rfl, hq, by rw [hv.length, setsD_len e2], sets_read (rs.mono s1) hv e2 fun σ' r => k _ _ s1 r⟩
    · cases ev
  · cases ev
theorem any_star {a b : Expr} (ha : argE a = true) (hb : argE b = true) : ([a, b].any fun | .Starred .. => true | _ => false) = false := by
  cases a <;> (try cases ha) <;> cases b <;> first | rfl | (cases hb; done)
theorem par_inv {sc : Scope} (h : parOk sc x y px py a b = true) : sc.names.lookup x = some .local ∧ sc.names.lookup y = some .local ∧ (px.line == py.line) = true ∧ x ≠ y ∧ argE a = true ∧ argE b = true ∧ [a, b].all (foldedForSure 8) = false ∧ [a, b].all (constantsAlone 8) = false := by
  unfold parOk at h
  simp only [Bool.and_eq_true, decide_eq_true_eq, Bool.not_eq_true', decide_eq_false_iff_not] at h
  obtain ⟨⟨⟨⟨⟨⟨⟨h1, h2⟩, h3⟩, h4⟩, h5⟩, h6⟩, h7⟩, h8⟩ := h
  exact ⟨h1, h2, h3, h4, h5, h6, h7, h8⟩
theorem s_par {k k2 : Nat} {tpos pt2 : Pos} (Fx : FS X G F T M m) (hi : X.N[i]? = some x) (hj : X.N[j]? = some y) (hp : parOk X.env.scope x y px py a b = true) (ha : PE X a (tC G F X.K T ca)) (hb : PE X b (tC G F X.K T cb)) :
    PS X (.Assign [.Tuple [.Name x px, .Name y py] k tpos] (.Tuple [a, b] k2 pt2) pos) (tS G F X.K T (.par i j ca cb)) := by
  obtain ⟨h1, h2, h3, h4, h5, h6, h7, h8⟩ := par_inv hp
  have hij : i ≠ j := fun z => by
    rw [z, hj] at hi
    exact h4 (Option.some.inj hi).symm
  refine (ps_par (ta := tL G F X.K T (.cons ca (.cons cb .nil))) Fx.fx.calm Fx.fx.nd hi hj hij h1 h2 (q_lcons h5 ha (q_lcons h6 hb q_lnil)) ?_ rfl).wk fun D σ H ⟨ρ, o, rs, ev, k⟩ => ?_
  · have hb : X.env.blockKind = .function := by unfold Env.blockKind; rw [Fx.kind]; rfl
    have k1 : (X.env.kindOf x == some .local) = true := by show (X.env.scope.names.lookup x == _) = true; rw [h1]; rfl
    have k2 : (X.env.kindOf y == some .local) = true := by show (X.env.scope.names.lookup y == _) = true; rw [h2]; rfl
    have l2 : (py.line == px.line) = true := by rw [beq_iff_eq] at h3 ⊢; exact h3.symm
    have l1 : (px.line == px.line) = true := by simp
    have hxy : (x == y) = false := by simpa using h4
    have hyx : (y == x) = false := by simpa using Ne.symm h4
    have ed : [x, y].eraseDups = [x, y] := by
      simp [List.eraseDups, List.eraseDupsBy, List.eraseDupsBy.loop, hxy, hyx]
    unfold swappedStores
    simp only [hb, h7, h8, List.filterMap_cons, List.filterMap_nil, k1, k2, l1, l2, Bool.and_self, if_true, List.head?_cons, Option.map_some, Option.getD_some, Expr.pos, ed]
    refine (if_neg (by simp)).trans ((if_neg fun z => Bool.false_ne_true ((any_star h5 h6).symm.trans z)).trans ((if_neg (by simp)).trans ((if_neg (by simp)).trans ((if_neg (by simp)).trans rfl))))
  · simp only [evS] at ev
    split at ev
    · rename_i u e1
      split at ev
      · rename_i w e2
        cases ev
        refine ⟨ρ, [u, w], rs, by simp only [evL, e1, e2], fun vs H1 s1 r1 => ?_⟩
        cases r1 with
        | cons r1 r2 =>
          cases r2 with
          | cons r2 r3 =>
            cases r3
            exact ⟨_, _, rfl, k _ _ s1 (((rs.mono s1).set i r1).set j r2)⟩
      · cases ev
    · cases ev
end
end Rp
namespace Rp
open PySem PySem.Spec PyProof.Rows L2
section
variable {X : Cx} {G : Gt} {F : Ft} {T : Cl} {M : Nm} {m n : Nat} {pos p px py apos cpos : Pos} {a b c e o : Expr} {ca cb cc : C} {K : PySem.W.Frag} {es : List Expr} {cl : CL} {x y : Str} {i j : Nat} {sa sb : SL} {ss tt : List Stmt}
theorem s_nil : PSs X [] (tSL G F X.K T .nil) := pss_nil.wk fun D σ H ⟨ρ, o, rs, ev, k⟩ => by
  cases (show some (.inl ρ) = some o from by simpa only [evSL] using ev)
  exact k _ _ (Same.refl H) rs
theorem s_cons {s : Stmt} {c : S} (h : PS X s (tS G F X.K T c)) (h2 : PSs X ss (tSL G F X.K T sa)) : PSs X (s :: ss) (tSL G F X.K T (.cons c sa)) := by
  refine (pss_cons h h2).wk fun D σ H ⟨ρ, o, rs, ev, k⟩ => ?_
  simp only [evSL] at ev
  split at ev
  · rename_i ρ' e1
    exact ⟨ρ, .inl ρ', rs, e1, fun σ' H' s r => ⟨ρ', o, r, ev, k.mono s⟩⟩
  · rename_i d e1
    cases ev
    exact ⟨ρ, .inr d, rs, e1, k⟩
  · cases ev
theorem s_ret (he : PE X e (tC G F X.K T ca)) : PS X (.Return (some e) pos) (tS G F X.K T (.ret ca)) := by
  refine (ps_ret he).wk fun D σ H ⟨ρ, o, rs, ev, k⟩ => ?_
  simp only [evS] at ev
  split at ev
  · rename_i d e1
    cases ev
    exact ⟨ρ, d, rs, e1, k⟩
  · cases ev
theorem s_if (ht : PT X e (tK G F X.K T ca)) (ha : PSs X ss (tSL G F X.K T sa)) (hb : PSs X tt (tSL G F X.K T sb)) : PS X (.If e ss tt pos) (tS G F X.K T (.iff ca sa sb)) := by
  refine (ps_if ht ha hb).wk fun D σ H ⟨ρ, o, rs, ev, k⟩ => ?_
  simp only [evS] at ev
  split at ev
  · rename_i e1
    exact ⟨ρ, true, rs, e1, fun H1 s1 => ⟨ρ, o, rs.mono s1, ev, k.mono s1⟩⟩
  · rename_i e1
    exact ⟨ρ, false, rs, e1, fun H1 s1 => ⟨ρ, o, rs.mono s1, ev, k.mono s1⟩⟩
  · cases ev
theorem s_while (hp : PassesOwn (model X.prog X.w) X.A X.env X.xe) (ht : PT X e (tK G F X.K T ca)) (ha : PSs X ss (tSL G F X.K T sa)) : PS X (.While e ss [] pos) (tS G F X.K T (.whil ca sa)) := by
  refine (ps_while hp ht ha).wk fun D σ H ⟨ρ, o, rs, ev, k⟩ => ?_
  simp only [evS] at ev
  refine ⟨fun q σ H => ∃ ρ, RepS X.K T H σ ρ ∧ loopD (fun r => evC G F ca r) (fun r => evSL G F sa r) q ρ = some o ∧ Dn X.K T D H o, ⟨1000000, ρ, rs, ev, k⟩, ?_⟩
  clear rs ev k
  rintro q σ H ⟨ρ, rs, ev, k⟩
  cases q with
  | zero => cases ev
  | succ q =>
    unfold loopD at ev
    split at ev
    · rename_i e1
      refine ⟨ρ, true, rs, e1, fun H1 s1 => iteT ?_⟩
      refine ⟨fun σ' H' => ∃ ρ', RepS X.K T H' σ' ρ' ∧ loopD (fun r => evC G F ca r) (fun r => evSL G F sa r) q ρ' = some o ∧ Dn X.K T D H' o, fun σ' H' h => ⟨q, Nat.lt_succ_self q, h⟩, ?_⟩
      split at ev
      · rename_i ρ' e2
        exact ⟨ρ, .inl ρ', rs.mono s1, e2, fun σ' H' s r => ⟨ρ', r, ev, k.mono (s1.trans s)⟩⟩
      · rename_i d e2
        cases ev
        exact ⟨ρ, .inr d, rs.mono s1, e2, k.mono s1⟩
      · cases ev
    · rename_i e1
      cases ev
      exact ⟨ρ, false, rs, e1, fun H1 s1 => iteF (k _ _ s1 (rs.mono s1))⟩
    · cases ev
theorem nat_int (i : Nat) : (0 : Int) + (i : Int) = (i : Int) := by omega
theorem s_forR (Fx : FS X G F T M m) (hi : slotB X.N X.env.scope x = some i) (hg : glB X.env.scope "range" = true) (ha0 : argE a = true) (ha : PE X a (tC G F X.K T ca)) (hb : PSs X ss (tSL G F X.K T sa)) :
    PS X (.For (.Name x px) (.Call (.Name "range" p) [a] [] cpos) ss [] pos) (tS G F X.K T (.forR i ca sa)) := by
  obtain ⟨g1, g2⟩ := slot_inv hi
  refine (ps_for Fx.own Fx.fx.calm (pi_range1 (gl_of hg) (Fx.fx.blt _ (by decide)) (pa_cons ha pa_nil (star_plain ha0)) (star_plain ha0)) (pg_name Fx.fx.nd g2 (loc_of g1) (.inl (Fx.fn x))) hb (fun _ => rfl)).wk fun D σ H ⟨ρ, o, rs, ev, k⟩ => ?_
  simp only [evS] at ev
  split at ev
  · rename_i q e1
    split at ev
    · rename_i hq
      refine ⟨ρ, .int q, rs, e1, fun v H1 s1 r1 => ?_⟩
      cases rep_int r1
      refine ⟨q, rfl, by omega, by omega, ?_⟩
      have ht : (2 : Int) ^ 62 = 4611686018427387904 := by decide
      refine for_range (fun u σ' H' => ∃ ρ', RepS X.K T H' σ' ρ' ∧ Rp.forR i (fun r => evSL G F sa r) (q.toNat - u) u ρ' = some o ∧ Dn X.K T D H' o) ⟨ρ, rs.mono s1, ev, k.mono s1⟩ ?_ ?_
      · rintro u σ' H' hu ⟨ρ', rs', ev', k'⟩
        obtain ⟨z, hz⟩ : ∃ z, q.toNat - u = z + 1 := ⟨q.toNat - u - 1, by omega⟩
        have hz2 : q.toNat - (u + 1) = z := by omega
        rw [hz] at ev'
        unfold Rp.forR at ev'
        have rs2 : RepS X.K T H' (σ'.set i (some (.int ((0 : Int) + (u : Int))))) (ρ'.set i (some (.int (u : Int)))) := by
          rw [nat_int]
          exact rs'.set i (.int _)
        split at ev'
        · rename_i ρ2 e2
          refine ⟨_, .inl ρ2, rs2, e2, fun σ2 H2 s2 r2 => ⟨ρ2, r2, ?_, k'.mono s2⟩⟩
          rw [hz2]
          exact ev'
        · rename_i d e2
          cases ev'
          exact ⟨_, .inr d, rs2, e2, k'⟩
        · cases ev'
      · rintro σ' H' ⟨ρ', rs', ev', k'⟩
        rw [Nat.sub_self] at ev'
        cases (show some (.inl ρ') = some o from ev')
        exact k' _ _ (Same.refl _) rs'
    · cases ev
  · cases ev
theorem s_forE {kk : Nat} {tpos : Pos} (Fx : FS X G F T M m) (hi : slotB X.N X.env.scope x = some i) (hj : slotB X.N X.env.scope y = some j) (hg : glB X.env.scope "enumerate" = true) (ha0 : argE a = true) (ha : PE X a (tC G F X.K T ca)) (hb : PSs X ss (tSL G F X.K T sa)) :
    PS X (.For (.Tuple [.Name x px, .Name y py] kk tpos) (.Call (.Name "enumerate" p) [a] [] cpos) ss [] pos) (tS G F X.K T (.forE i j ca sa)) := by
  have hs : slotsOf X.N X.env.scope [.Name x px, .Name y py] = some [i, j] := by
    unfold slotsOf slotsOf slotsOf
    rw [hi, hj]
  obtain ⟨g1, g2, g3⟩ := names_ok Fx hs
  refine (ps_for Fx.own Fx.fx.calm (pi_enumS (gl_of hg) (Fx.fx.blt _ (by decide)) (pa_cons ha pa_nil (star_plain ha0)) (star_plain ha0)) (pg_tup Fx.fx.calm g1 g2 g3) hb (fun _ => rfl)).wk fun D σ H ⟨ρ, o, rs, ev, k⟩ => ?_
  simp only [evS] at ev
  split at ev
  · rename_i z e1
    refine ⟨ρ, .str z, rs, e1, fun v H1 s1 r1 => ?_⟩
    cases rep_str r1
    refine ⟨toS z, rfl, ?_⟩
    have hsz : (toS z).cps.size = z.length := by show ((z.map (·.val)).toArray).size = _; simp
    refine ⟨fun u q σ' H' => q = z.length - u ∧ u ≤ z.length ∧ ∃ ρ', RepS X.K T H' σ' ρ' ∧ Rp.forE i j (fun r => evSL G F sa r) (z.drop u) u ρ' = some o ∧ Dn X.K T D H' o, ⟨z.length, by simp, Nat.zero_le _, ρ, rs.mono s1, ev, k.mono s1⟩, ?_⟩
    rintro u q σ' H' ⟨rfl, hu, ρ', rs', ev', k'⟩
    by_cases hlt : u < z.length
    · rw [List.drop_eq_getElem_cons hlt] at ev'
      unfold Rp.forE at ev'
      refine .inr ⟨by show u < (toS z).cps.size; rw [hsz]; exact hlt, fun σ2 H2 => ∃ ρ2, RepS X.K T H2 σ2 ρ2 ∧ Rp.forE i j (fun r => evSL G F sa r) (z.drop (u + 1)) (u + 1) ρ2 = some o ∧ Dn X.K T D H2 o, fun σ2 H2 h => ⟨z.length - (u + 1), by omega, rfl, hlt, h⟩, ?_⟩
      rintro v H2 ⟨T0, cc, rfl, hT, rfl, hc⟩
      have hcc : cc = z[u].val := by
        have : (toS z).cps[u]? = some z[u].val := by show ((z.map (·.val)).toArray)[u]? = _; simp [hlt]
        rw [this] at hc
        exact (Option.some.inj hc).symm
      subst hcc
      have sm := same_new (o := .tup [.int (u : Nat), .str ⟨#[z[u].val]⟩]) hT
      refine ⟨T0, _, rfl, .of upd_same, rfl, _, _, rfl, _, _, rfl, rfl, ?_⟩
      have rs2 : RepS X.K T (upd H' T0 (.tup [.int (u : Nat), .str ⟨#[z[u].val]⟩])) ((σ'.set i (some (.int (u : Nat)))).set j (some (.str ⟨#[z[u].val]⟩))) ((ρ'.set i (some (.int (u : Int)))).set j (some (.str [z[u]]))) :=
        ((rs'.mono sm).set i (.int _)).set j (.str [z[u]])
      split at ev'
      · rename_i ρ2 e2
        exact ⟨_, .inl ρ2, rs2, e2, fun σ2 H2 s2 r2 => ⟨ρ2, r2, ev', k'.mono (sm.trans s2)⟩⟩
      · rename_i d e2
        cases ev'
        exact ⟨_, .inr d, rs2, e2, k'.mono sm⟩
      · cases ev'
    · have e2 : u = z.length := by omega
      subst e2
      rw [List.drop_length] at ev'
      cases (show some (.inl ρ') = some o from ev')
      exact .inl ⟨by show _ = (toS z).cps.size; rw [hsz], k' _ _ (Same.refl _) rs'⟩
  · cases ev
end
end Rp
namespace Rp
open PySem PySem.Spec PyProof.Rows L2
section
variable {X : Cx} {G : Gt} {F : Ft} {T : Cl} {M : Nm} {m n : Nat} {pos p : Pos} {e : Expr} {ca : C} {ss : List Stmt} {sa : SL}
theorem pat_one {pins : List (Addr × Obj)} {s : Shared} {σ : L2.St} {H : Hp} {x t : List Ch} {u : Value} (hu : X.A.units < cLine) (I : Inv X pins σ H s) (ru : RelV (.str (toS x)) u) (h : strC e = some t) :
    wpAny (model X.prog X.w) X.A (matchPattern (.MatchValue e p) X.env u) (fun r s1 => r = (if beqS x t = true then some [] else none) ∧ Inv X pins σ H s1) X.xe s := by
  obtain ⟨j, q, rfl⟩ := strC_ok h
  refine wpAny_matchPattern_Value (thn ((pe_str (X := X) (x := toS t) (j := j) (pos := q)).run pins s σ H (fun v H1 => v = .str (toS t) ∧ H1 = H) I ⟨rfl, rfl⟩) fun w s1 ⟨v, H1, I1, rw1, ev, eH⟩ => ?_)
  subst ev eH
  refine (eqD_ok (T := ⟨fun _ => 0, fun _ => []⟩) hu I1 ru rw1 (.str x) (.str t) (show eqD (.str x) (.str t) = some (beqS x t) from rfl)).1 _ fun s2 I2 => wpAny_truthy_bool ?_
  cases beqS x t
  · exact ⟨rfl, I2⟩
  · exact ⟨rfl, I2⟩
theorem pat_first {pins : List (Addr × Obj)} {σ : L2.St} {H : Hp} {x : List Ch} {u : Value} (hu : X.A.units < cLine) (ru : RelV (.str (toS x)) u) : ∀ {ps : List Pattern} {ts : List (List Ch)} {s : Shared}, Inv X pins σ H s → patB.patBs ps = some ts →
    wpAny (model X.prog X.w) X.A (matchFirst ps X.env u) (fun r s1 => r = (if anyS x ts = true then some [] else none) ∧ Inv X pins σ H s1) X.xe s
  | [], ts, s, I, h => by
    cases (show some [] = some ts from h)
    exact wpAny_matchFirst_nil ⟨rfl, I⟩
  | p :: ps, ts, s, I, h => by
    unfold patB.patBs at h
    split at h
    · rename_i e0
      cases e0
    · rename_i e q r e0
      cases e0
      split at h
      · rename_i t rest h1 h2
        cases h
        refine wpAny_matchFirst_cons (thn (pat_one hu I ru h1) fun r s1 ⟨er, I1⟩ => ?_)
        subst er
        unfold anyS
        cases hb : beqS x t with
        | true => exact ⟨rfl, I1⟩
        | false => exact pat_first hu ru I1 h2
      · cases h
    · cases h
theorem names_pat : ∀ {ps : List Pattern} {ts : List (List Ch)}, patB.patBs ps = some ts → namesOfAll (ps.take 1) = []
  | [], ts, h => rfl
  | p :: ps, ts, h => by
    unfold patB.patBs at h
    split at h
    · rename_i e0
      cases e0
    · rename_i e q r e0
      cases e0
      rfl
    · cases h
theorem pat_ok {pins : List (Addr × Obj)} {s : Shared} {σ : L2.St} {H : Hp} {x : List Ch} {u : Value} {pt : Pattern} {ts : List (List Ch)} (hu : X.A.units < cLine) (ru : RelV (.str (toS x)) u) (I : Inv X pins σ H s) (h : patB pt = some ts) :
    wpAny (model X.prog X.w) X.A (matchPattern pt X.env u) (fun r s1 => r = (if anyS x ts = true then some [] else none) ∧ Inv X pins σ H s1) X.xe s := by
  unfold patB at h
  split at h
  · rename_i e q
    split at h
    · rename_i t h1
      cases h
      refine thn (pat_one hu I ru h1) fun r s1 ⟨er, I1⟩ => ⟨?_, I1⟩
      subst er
      show (if beqS x t = true then some [] else none) = if (beqS x t || false) = true then some [] else none
      rw [Bool.or_false]
    · cases h
  · rename_i ps q
    refine wpAny_matchPattern_Or (thn (pat_first hu ru I h) fun r s1 ⟨er, I1⟩ => ?_)
    subst er
    cases anyS x ts with
    | false => exact ⟨rfl, I1⟩
    | true =>
      refine ⟨?_, I1⟩
      rw [names_pat h]
      rfl
  · cases h
/-- the cases of a match -/
def PM (X : Cx) (G : Gt) (F : Ft) (T : Cl) (cs : List MatchCase) (c : ML) : Prop := ∀ (pins : List (Addr × Obj)) (s : Shared) (σ : L2.St) (H : Hp) (D : Ends) (x : List Ch) (u : Value) (first : Bool) (ρ : Ev) (o : Out), Inv X pins σ H s → RelV (.str (toS x)) u → RepS X.K T H σ ρ → evM G F x c ρ = some o → Dn X.K T D H o →
  wpAny (model X.prog X.w) X.A (matchCases cs X.env u first) (SP X pins D) X.xe s
theorem m_nil : PM X G F T [] .nil := fun pins s σ H D x u first ρ o I ru rs ev k => by
  cases (show some (.inl ρ) = some o from by simpa only [evM] using ev)
  exact wpAny_matchCases_nil ⟨σ, H, I, k _ _ (Same.refl H) rs⟩
theorem m_cons {pt : Pattern} {ts : List (List Ch)} {cs : List MatchCase} {cm : ML} (hu : X.A.units < cLine) (hp : patB pt = some ts) (hb : PSs X ss (tSL G F X.K T sa)) (hr : PM X G F T cs cm) : PM X G F T (⟨pt, none, ss⟩ :: cs) (.cons ts sa cm) := fun pins s σ H D x u first ρ o I ru rs ev k => by
  simp only [evM] at ev
  refine wpAny_matchCases_cons (thn (pat_ok hu ru I hp) fun r s1 ⟨er, I1⟩ => ?_)
  subst er
  split at ev
  · rename_i e1
    simp only [e1, if_true]
    exact wpAny_assignInOrder_none (hb.run pins s1 σ H D I1 ⟨ρ, o, rs, ev, k⟩)
  · rename_i e1
    simp only [e1]
    exact hr pins s1 σ H D x u false ρ o I1 ru rs ev k
theorem s_match {cs : List MatchCase} {cm : ML} (he : PE X e (tC G F X.K T ca)) (hm : PM X G F T cs cm) : PS X (.Match e cs pos) (tS G F X.K T (.mtch ca cm)) := by
  refine ⟨fun pins s σ H D I ⟨ρ, o, rs, ev, k⟩ => ?_⟩
  simp only [evS] at ev
  split at ev
  · rename_i x e1
    refine wpAny_Match (thn (he.run pins s σ H (fun v H1 => v = .str (toS x) ∧ Same H H1) I ⟨ρ, .str x, rs, e1, fun v H1 s1 r1 => ⟨rep_str r1, s1⟩⟩) fun u s1 ⟨v, H1, I1, ru, ev2, sm⟩ => ?_)
    subst ev2
    exact hm pins s1 σ H1 D x u true ρ o I1 ru (rs.mono sm) ev (k.mono sm)
  · cases ev
end
end Rp
namespace Rp
open PySem PySem.Spec PyProof.Rows L2
section
variable {G : Gt} {F : Ft} {T : Cl} {M : Nm} {m : Nat}
structure SndS (G : Gt) (F : Ft) (T : Cl) (M : Nm) (m n : Nat) : Prop where
  S : ∀ (X : Cx) (s : Stmt) (c : S), FS X G F T M m → cS M n X.N X.env.scope s = some c → PS X s (tS G F X.K T c)
  L : ∀ (X : Cx) (ss : List Stmt) (c : SL), FS X G F T M m → cSL M n X.N X.env.scope ss = some c → PSs X ss (tSL G F X.K T c)
  M : ∀ (X : Cx) (cs : List MatchCase) (c : ML), FS X G F T M m → cM M n X.N X.env.scope cs = some c → PM X G F T cs c
theorem sndS0 : SndS G F T M m 0 := ⟨fun X e c _ h => (by cases h), fun X e c _ h => (by cases h), fun X es c _ h => (by cases h)⟩
variable {n : Nat} {X : Cx} {pos : Pos}
theorem asg_name {x : Str} {px : Pos} {e : Expr} {c : S} (hF : ∀ ds d, F 0 ds = some d → ∃ fs, d = .ins 0 fs) (Fx : FS X G F T M m) (h : cS M (n + 1) X.N X.env.scope (.Assign [.Name x px] e pos) = some c) : PS X (.Assign [.Name x px] e pos) (tS G F X.K T c) := by
  have main : (match slotB X.N X.env.scope x, plainE e, cE M n X.N X.env.scope e with
      | some i, true, some c => some (S.set i c)
      | _, _, _ => none) = some c → PS X (.Assign [.Name x px] e pos) (tS G F X.K T c) := by
    intro h
    split at h
    · rename_i i c h1 h2 h3
      cases h
      exact s_set Fx h1 h2 ((snd_ok hF n).E X e _ Fx.fx h3)
    · cases h
  cases e <;> try (exact main h)
  case ListComp elt gs scope lpos =>
    have h2 : (match ixOf x X.N, decide (X.env.scope.names.lookup x = some .local) && (px.line == lpos.line) && !(scope.names.any fun (n, k) => n == x && (k == .local || k == .cell)), cE M n X.N X.env.scope (.ListComp elt gs scope lpos) with
      | some i, true, some c => some (S.set i c)
      | _, _, _ => none) = some c := h
    split at h2
    · rename_i k c' h3 h4 h5
      cases h2
      simp only [Bool.and_eq_true, decide_eq_true_eq, Bool.not_eq_true'] at h4
      obtain ⟨⟨g1, g2⟩, g3⟩ := h4
      cases n with
      | zero => cases h5
      | succ n =>
        have Sn : Snd G F T M m n := snd_ok hF n
        rcases gs with _ | ⟨⟨tg, iter, ifs, as⟩, _ | ⟨g, gs⟩⟩
        · cases (show (Option.none : Option C) = some c' from h5)
        · cases tg <;> try (cases (show (Option.none : Option C) = some c' from h5); done)
          rename_i y py
          by_cases h0 : as = 0
          · subst h0
            have h6 : lcC X.N X.env.scope scope y iter ifs (cE M n X.N X.env.scope iter) (cE M n X.N (relS scope X.env.scope) elt) (cE M n X.N (relS scope X.env.scope)) = some c' := h5
            unfold lcC at h6
            split at h6
            · rename_i i it k1 k2 k3
              split at h6
              · rename_i hh
                split at h6
                · rename_i e k4
                  split at h6
                  · cases h6
                    exact s_setLc Fx (ixOf_ok h3) g1 g2 g3 (ixOf_ok k1) k2 hh.1 hh.2 (Sn.E X iter _ Fx.fx k3) (fun X' Fx' eN eK eS => by rw [← eK]; exact Sn.E X' _ _ Fx' (by rw [eN, eS]; exact k4)) fun X' _ _ eK _ => by rw [← eK]; exact q_tnone
                  · rename_i t
                    split at h6
                    · rename_i t' k5
                      cases h6
                      exact s_setLc Fx (ixOf_ok h3) g1 g2 g3 (ixOf_ok k1) k2 hh.1 hh.2 (Sn.E X iter _ Fx.fx k3) (fun X' Fx' eN eK eS => by rw [← eK]; exact Sn.E X' _ _ Fx' (by rw [eN, eS]; exact k4)) fun X' Fx' eN eK eS => by rw [← eK]; exact q_tsome (Sn.P X' _ _ Fx' (by rw [eN, eS]; exact k5))
                    · cases h6
                  · cases h6
                · cases h6
              · cases h6
            · cases h6
          · exfalso
            simp only [cE] at h5
            split at h5 <;> rename_i e1 <;> try (cases e1; done)
            · cases e1
              exact h0 rfl
            · cases h5
        · exfalso
          simp only [cE] at h5
          cases h5
    · cases h2
theorem asg_tuple {ts : List Expr} {k : Nat} {tpos : Pos} {e : Expr} {c : S} (hF : ∀ ds d, F 0 ds = some d → ∃ fs, d = .ins 0 fs) (Fx : FS X G F T M m) (h : cS M (n + 1) X.N X.env.scope (.Assign [.Tuple ts k tpos] e pos) = some c) : PS X (.Assign [.Tuple ts k tpos] e pos) (tS G F X.K T c) := by
  have Sn : Snd G F T M m n := snd_ok hF n
  have main : isTup e = false → (match slotsOf X.N X.env.scope ts, plainE e && !isTup e, cE M n X.N X.env.scope e with
        | some is, true, some c => some (S.sets is c)
        | _, _, _ => none) = some c → PS X (.Assign [.Tuple ts k tpos] e pos) (tS G F X.K T c) := by
    intro hn h
    split at h
    · rename_i is c h1 h2 h3
      cases h
      simp only [Bool.and_eq_true, Bool.not_eq_true'] at h2
      refine s_sets Fx h1 ?_ (show swapsWith e (some (.Tuple ts k tpos)) pos.line X.env = pure false from plain_swap h2.1) (Sn.E X e _ Fx.fx h3)
      cases e <;> first | rfl | (cases hn; done)
    · cases h
  cases e <;> try (exact main rfl h)
  case Tuple es k2 pt2 =>
    rcases ts with _ | ⟨t1, _ | ⟨t2, _ | ⟨t3, ts⟩⟩⟩
    · cases es <;> cases (show (Option.none : Option S) = some c from h)
    · cases t1 <;> cases es <;> cases (show (Option.none : Option S) = some c from h)
    · cases t1 <;> try (cases (show (Option.none : Option S) = some c from h); done)
      cases t2 <;> try (cases (show (Option.none : Option S) = some c from h); done)
      rename_i x px y py
      rcases es with _ | ⟨a, _ | ⟨b, _ | ⟨d, es⟩⟩⟩
      · cases (show (Option.none : Option S) = some c from h)
      · cases (show (Option.none : Option S) = some c from h)
      · have h2 : (match ixOf x X.N, ixOf y X.N, parOk X.env.scope x y px py a b, cE M n X.N X.env.scope a, cE M n X.N X.env.scope b with
          | some i, some j, true, some u, some v => some (S.par i j u v)
          | _, _, _, _, _ => match slotB X.N X.env.scope x, slotB X.N X.env.scope y, [a, b].all (foldedForSure 8), cE M n X.N X.env.scope (.Tuple [a, b] k2 pt2) with
            | some i, some j, true, some u => some (S.sets [i, j] u)
            | _, _, _, _ => none) = some c := h
        split at h2
        · rename_i i j u v h3 h4 h5 h6 h7
          cases h2
          exact s_par Fx (ixOf_ok h3) (ixOf_ok h4) h5 (Sn.E X a _ Fx.fx h6) (Sn.E X b _ Fx.fx h7)
        · split at h2
          · rename_i i j u h3 h4 h5 h6
            cases h2
            have hs : slotsOf X.N X.env.scope [.Name x px, .Name y py] = some [i, j] := by
              unfold slotsOf slotsOf slotsOf
              rw [h3, h4]
            refine s_sets Fx hs ?_ rfl (Sn.E X _ _ Fx.fx h6)
            unfold swappedStores
            simp only [h5, if_true]
            split
            · rfl
            · split
              · rfl
              · split <;> rfl
          · cases h2
      · cases (show (Option.none : Option S) = some c from h)
    · cases t1 <;> try (cases es <;> cases (show (Option.none : Option S) = some c from h); done)
      cases t2 <;> cases es <;> cases (show (Option.none : Option S) = some c from h)
theorem snd_S (hF : ∀ ds d, F 0 ds = some d → ∃ fs, d = .ins 0 fs) (IS : SndS G F T M m n) (X : Cx) (s : Stmt) (c : S) (Fx : FS X G F T M m) (h : cS M (n + 1) X.N X.env.scope s = some c) : PS X s (tS G F X.K T c) := by
  have Sn : Snd G F T M m n := snd_ok hF n
  cases s <;> (try simp only [cS] at h) <;> try (cases h; done)
  case Assign ts e pos =>
    rcases ts with _ | ⟨t, _ | ⟨t2, ts⟩⟩
    · cases (show (Option.none : Option _) = some c from h)
    · cases t <;> try (cases (show (Option.none : Option _) = some c from h); done)
      case Name => exact asg_name (n := n) hF Fx h
      case Tuple => exact asg_tuple (n := n) hF Fx h
    · cases t <;> cases (show (Option.none : Option _) = some c from h)
  case If t a b pos =>
    split at h
    · rename_i x y z h1 h2 h3
      cases h
      exact s_if (Sn.P X t _ Fx.fx h1) (IS.L X a _ Fx h2) (IS.L X b _ Fx h3)
    · cases h
  case Return e pos =>
    cases e with
    | none => cases (show (Option.none : Option _) = some c from h)
    | some e =>
      simp only [cS] at h
      split at h
      · rename_i x h1 h2
        cases h
        exact s_ret (Sn.E X e _ Fx.fx h2)
      · cases h
  case While t b els pos =>
    cases els with
    | cons _ _ => cases (show (Option.none : Option _) = some c from h)
    | nil =>
      simp only [cS] at h
      split at h
      · rename_i x y h1 h2
        cases h
        exact s_while Fx.own (Sn.P X t _ Fx.fx h1) (IS.L X b _ Fx h2)
      · cases h
  case Match e cs pos =>
    split at h
    · rename_i x y h1 h2
      cases h
      exact s_match (Sn.E X e _ Fx.fx h1) (IS.M X cs _ Fx h2)
    · cases h
  case Pass pos =>
    cases h
    exact ps_pass.wk fun D σ H ⟨ρ, o, rs, ev, k⟩ => by
      cases (show some (.inl ρ) = some o from by simpa only [evS] using ev)
      exact k _ _ (Same.refl H) rs
  case Raise a b pos =>
    cases h
    exact ps_never.wk fun D σ H ⟨ρ, o, rs, ev, k⟩ => by
      simp only [evS] at ev
      cases ev
  case For tg it b els pos =>
    split at h <;> rename_i e1 <;> try (cases e1; done)
    · cases e1
      split at h
      · rename_i i x y h1 h2 h3 h4
        cases h
        simp only [Bool.and_eq_true, decide_eq_true_eq] at h2
        obtain ⟨⟨rfl, g2⟩, g3⟩ := h2
        exact s_forR Fx h1 g2 g3 (Sn.E X _ _ Fx.fx h3) (IS.L X _ _ Fx h4)
      · cases h
    · cases e1
      split at h
      · rename_i i j x y h1 h2 h3 h4 h5
        cases h
        simp only [Bool.and_eq_true, decide_eq_true_eq] at h3
        obtain ⟨⟨rfl, g2⟩, g3⟩ := h3
        exact s_forE Fx h1 h2 g2 g3 (Sn.E X _ _ Fx.fx h4) (IS.L X _ _ Fx h5)
      · cases h
    · cases h
theorem snd_SL (S : SndS G F T M m n) (X : Cx) (ss : List Stmt) (c : SL) (Fx : FS X G F T M m) (h : cSL M (n + 1) X.N X.env.scope ss = some c) : PSs X ss (tSL G F X.K T c) := by
  cases ss with
  | nil => simp only [cSL] at h; cases h; exact s_nil
  | cons s r =>
    simp only [cSL] at h
    split at h
    · rename_i x y h1 h2
      cases h
      exact s_cons (S.S X s _ Fx h1) (S.L X r _ Fx h2)
    · cases h
theorem snd_M (S : SndS G F T M m n) (X : Cx) (cs : List MatchCase) (c : ML) (Fx : FS X G F T M m) (h : cM M (n + 1) X.N X.env.scope cs = some c) : PM X G F T cs c := by
  cases cs with
  | nil => simp only [cM] at h; cases h; exact m_nil
  | cons s r =>
    obtain ⟨p, g, b⟩ := s
    cases g with
    | some _ => simp only [cM] at h; cases h
    | none =>
      simp only [cM] at h
      split at h
      · rename_i x y z h1 h2 h3
        cases h
        exact m_cons Fx.fx.hu h1 (S.L X b _ Fx h2) (S.M X r _ Fx h3)
      · cases h
theorem sndS_ok (hF : ∀ ds d, F 0 ds = some d → ∃ fs, d = .ins 0 fs) : ∀ n, SndS G F T M m n
  | 0 => sndS0
  | n + 1 => ⟨snd_S hF (sndS_ok hF n), snd_SL (sndS_ok hF n), snd_M (sndS_ok hF n)⟩
end
end Rp
namespace Rp
open PySem PySem.Spec PyProof.Rows L2
/-- what stands behind the top, without the defs -/
structure HF (K : PySem.W.Frag) (w : World) (mg : Str → Option Value) (G : Gt) (T : Cl) (M : Nm) : Prop where
  cls : Cls K (T.at_ 0)
  fld : T.fld 0 = M.fld
  fnd : M.fld.Nodup
  noat : ∀ f ∈ M.fld, NoAttr K (T.at_ 0) f
  nometh : ∀ p ∈ M.mid, p.1 ∉ M.fld
  glo : ∀ x j d, M.gid.lookup x = some j → G.glo j = some d → ∃ u v, mg x = some u ∧ RelV v u ∧ ∀ H, Rep K T H v d
  tab : ∀ x j, M.tid.lookup x = some j → ∃ a es n, mg x = some (.ref a) ∧ KDict K w a es n ∧ ∀ k d, lookK k (G.tab j).1 (G.tab j).2 = some d → ∃ u v, PySem.W.nsIn K a (toS k) = some (some u) ∧ RelV v u ∧ ∀ H, Rep K T H v d
  blt : ∀ x ∈ blts, mg x = none
/-- the defs, their results F, at nesting m -/
structure FF_ (P : Program) (w : World) (K : PySem.W.Frag) (mg : Str → Option Value) (base : Heap) (F : Ft) (T : Cl) (M : Nm) (m : Nat) : Prop where
  fn : ∀ x f, M.fid.lookup x = some f → ∃ a, mg x = some (.ref a) ∧ PySem.W.keepIn K (.ref a) = true ∧ FnR P w K mg base CX0 (m + 2) a (spD K T (F f))
  mt : ∀ x f, M.mid.lookup x = some f → ∃ a, Meth K (T.at_ 0) x a ∧ FnR P w K mg base CX0 (m + 2) a (spD K T (F f))
  mk_ : ∃ a, mg M.cls = some (.ref (T.at_ 0)) ∧ Mk K (T.at_ 0) a ∧ FnR P w K mg base CX0 (m + 1) a (spI K T (F 0))
section
variable {P : Program} {w : World} {K : PySem.W.Frag} {mg : Str → Option Value} {base : Heap} {G : Gt} {F : Ft} {T : Cl} {M : Nm} {m n k : Nat}
theorem facts_of {X : Cx} (hf : HF X.K X.w X.mg G T M) (B : FF_ X.prog X.w X.K X.mg X.base F T M m) (hc : X.calm = true) (nd : X.N.Nodup) (hr : Room (m + 2) X.A) : Facts X G F T M m :=
  ⟨hc, nd, hr, hf.cls, hf.fld, hf.fnd, hf.noat, hf.nometh, hf.glo, hf.tab, hf.blt, B.fn, B.mt, B.mk_⟩
theorem fs_of {N ps : List Str} {qual : Str} {scope : Scope} {f : Addr} {cdv : Value} {A : Around} {outer : List Env} {s : Shared} {H : Hp} {E : XK} (hf : HF K w mg G T M) (B : FF_ P w K mg base F T M m) (S : FnScope N ps scope) (hr : Room (m + 2) (A.deeper (envOfC qual scope s.heap.objs.size f cdv))) :
    FS (cxOf CX0 P w K mg base N qual scope f cdv A outer s H E) G F T M m :=
  ⟨facts_of (X := cxOf CX0 P w K mg base N qual scope f cdv A outer s H E) hf B rfl S.nd hr, fun _ => rfl, S.kind, passes_of (X := cxOf CX0 P w K mg base N qual scope f cdv A outer s H E) rfl⟩
theorem start_rep {H : Hp} {N : List Str} {vs : List V} {ds : List D} (r : RepL K T H vs ds) : RepS K T H (L2.start N vs) (startD N.length ds) := by
  have hl := r.length
  refine ⟨by unfold L2.start startD; rw [List.length_append, List.length_append, List.length_map, List.length_map, List.length_replicate, List.length_replicate, hl], fun i d h => ?_⟩
  unfold startD at h
  unfold L2.start
  by_cases hi : i < ds.length
  · rw [List.getElem?_append_left (by simpa using hi), List.getElem?_map] at h
    obtain ⟨d', hd, e⟩ := Option.map_eq_some_iff.mp h
    cases e
    obtain ⟨v, h1, h2⟩ := r.get hd
    refine ⟨v, ?_, h2⟩
    rw [List.getElem?_append_left (by simpa [hl] using hi), List.getElem?_map, h1]
    rfl
  · rw [List.getElem?_append_right (by simpa using hi), List.getElem?_replicate] at h
    split at h <;> cases h
/-- the promise by the body: the parameters' values, then what the evaluator says -/
def spB (K : PySem.W.Frag) (T : Cl) (G : Gt) (F : Ft) (np slots : Nat) (b : SL) : Sp := fun vs H Q _ => ∃ ds d, RepL K T H vs ds ∧ ds.length = np ∧ outD (evSL G F b (startD slots ds)) = some d ∧ Got K T H d Q
theorem body_ok {N ps : List Str} {qual : Str} {body : List Stmt} {scope : Scope} {f : Addr} {b : SL} (hF : ∀ ds d, F 0 ds = some d → ∃ fs, d = .ins 0 fs) (hf : HF K w mg G T M) (B : FF_ P w K mg base F T M m) (S : FnScope N ps scope) (hc : cSL M n N scope body = some b)
    (cdv : Value) (A : Around) (outer : List Env) (s : Shared) (H : Hp) (vs : List V) (Q : VK) (E : XK) (hr : Room (m + 2) (A.deeper (envOfC qual scope s.heap.objs.size f cdv))) (h : spB K T G F ps.length N.length b vs H Q E) :
    ∃ t, PSs (cxOf CX0 P w K mg base N qual scope f cdv A outer s H E) body t ∧ t { nx := fun _ H' => Q .non H', rt := Q } (L2.start N vs) H := by
  obtain ⟨ds, d, r, hl, ev, k⟩ := h
  refine ⟨_, (sndS_ok hF n).L _ body b (fs_of hf B S hr) hc, ?_⟩
  cases e : evSL G F b (startD N.length ds) with
  | none => rw [e] at ev; cases ev
  | some o =>
    refine ⟨_, o, start_rep r, e, ?_⟩
    rw [e] at ev
    cases o with
    | inl ρ =>
      cases ev
      exact fun σ' H' sm _ => k _ _ sm .non
    | inr d' =>
      cases ev
      exact k
theorem spB_len {np slots : Nat} {b : SL} (vs : List V) (H : Hp) (Q : VK) (E : XK) (h : spB K T G F np slots b vs H Q E) : vs.length = np := by
  obtain ⟨ds, d, r, hl, _, _⟩ := h
  rw [r.length, hl]
/-- a def without a star -/
theorem def_ok {x qual : Str} {params : Arguments} {N ps : List Str} {body : List Stmt} {scope : Scope} {dvs : List V} {f : Addr} {fd : FuncData} {b : SL} (hF : ∀ ds d, F 0 ds = some d → ∃ fs, d = .ins 0 fs) (hf : HF K w mg G T M) (B : FF_ P w K mg base F T M m)
    (D : FunD K x qual params body scope dvs [] f fd) (S : FnScope N ps scope) (hc : cSL M n N scope body = some b) : FnOk P w K mg base CX0 (m + 3) f fd ps (spB K T G F ps.length N.length b) :=
  D.ok S spB_len fun cdv A outer s H vs Q E hr h => body_ok hF hf B S hc cdv A outer s H vs Q E hr h
theorem run0 {g : Fn} {ds : List D} {d : D} (hs : g.star = false) (hd : g.dfl = []) (h : runF G F g ds = some d) : ds.length = g.n ∧ outD (evSL G F g.body (startD g.slots ds)) = some d := by
  unfold runF bindF at h
  rw [hs, hd] at h
  simp only [List.length_nil, Nat.add_zero, List.drop_nil, List.append_nil] at h
  split at h
  · rename_i vs e
    split at e
    · rename_i h1 h2
      cases e
      exact ⟨Nat.le_antisymm (Nat.le_of_ble_eq_true h1) (Nat.le_of_ble_eq_true h2), h⟩
    · cases e
  · cases h
theorem def_plain {x qual : Str} {params : Arguments} {N ps : List Str} {body : List Stmt} {scope : Scope} {f : Addr} {fd : FuncData} {g : Fn} (hF : ∀ ds d, F 0 ds = some d → ∃ fs, d = .ins 0 fs) (hf : HF K w mg G T M) (B : FF_ P w K mg base F T M m)
    (D : FunD K x qual params body scope [] [] f fd) (S : FnScope N ps scope) (hc : cSL M n N scope body = some g.body) (hs : g.star = false) (hd : g.dfl = []) (hn : g.n = ps.length) (hsl : g.slots = N.length) (hb : Binds K fd ps []) : FnR P w K mg base CX0 (m + 3) f (spD K T (runF G F g)) :=
  ((def_ok hF hf B D S hc).raw hb .nil).imp fun vs H Q E ⟨ds, d, r, ev, k⟩ => by
    obtain ⟨h1, h2⟩ := run0 hs hd ev
    rw [List.append_nil]
    exact ⟨ds, d, r, h1.trans hn, by rw [← hsl]; exact h2, k⟩
/-- a def with defaults -/
theorem def_dfl {x qual : Str} {params : Arguments} {N ps : List Str} {body : List Stmt} {scope : Scope} {dvs : List V} {f : Addr} {fd : FuncData} {g : Fn} (hF : ∀ ds d, F 0 ds = some d → ∃ fs, d = .ins 0 fs) (hf : HF K w mg G T M) (B : FF_ P w K mg base F T M m)
    (D : FunD K x qual params body scope dvs [] f fd) (S : FnScope N ps scope) (hc : cSL M n N scope body = some g.body) (hs : g.star = false) (hn : g.n = ps.length) (hsl : g.slots = N.length) (hd : ∀ H, RepL K T H dvs g.dfl)
    (hb : ∀ j, j ≤ dvs.length → ∃ ds, Vals (dvs.drop j) ds ∧ Binds K fd ps ds) : FnR P w K mg base CX0 (m + 3) f (spD K T (runF G F g)) := by
  intro A outer s H us vs Q E hr e0 r ⟨ds, d, rd, ev, k⟩
  have hdl := (hd H).length
  unfold runF bindF at ev
  rw [hs] at ev
  simp only at ev
  split at ev
  · rename_i zs e
    split at e
    · rename_i h1 h2
      cases e
      obtain ⟨es, h3, h4⟩ := hb (ds.length + g.dfl.length - g.n) (by have := Nat.le_of_ble_eq_true h1; omega)
      refine ((def_ok hF hf B D S hc).raw h4 h3) A outer s H us vs Q E hr e0 r ⟨ds ++ g.dfl.drop (ds.length + g.dfl.length - g.n), d, rd.append ((hd H).drop _), ?_, by rw [← hsl]; exact ev, k⟩
      have h5 := Nat.le_of_ble_eq_true h1
      have h6 := Nat.le_of_ble_eq_true h2
      rw [List.length_append, List.length_drop, ← hn]
      omega
    · cases e
  · cases ev
/-- a def with a star -/
theorem def_star {x qual : Str} {params : Arguments} {N ps : List Str} {pv : Str} {body : List Stmt} {scope : Scope} {f : Addr} {fd : FuncData} {g : Fn} (hF : ∀ ds d, F 0 ds = some d → ∃ fs, d = .ins 0 fs) (hf : HF K w mg G T M) (B : FF_ P w K mg base F T M m)
    (D : FunD K x qual params body scope [] [] f fd) (S : FnScope N (ps ++ [pv]) scope) (hc : cSL M n N scope body = some g.body) (hs : g.star = true) (hn : g.n = ps.length) (hsl : g.slots = N.length)
    (hb : ∀ (kV doc pm : Value) (an : Option Addr) (cdv ct : Value) (us rest : List Value), us.length = ps.length → bindArgs (PySem.W.fnOf x qual params body scope .none kV doc pm an cdv ct) ⟨us ++ rest, []⟩ = (newTuple rest >>= fun t => pure (ps.zip us ++ [(pv, t)]))) : FnR P w K mg base CX0 (m + 3) f (spD K T (runF G F g)) := by
  obtain ⟨oc, od, dV, kV, doc, pm, an, cdv, ct, osl, rfl, lk, hcd, hD, hK⟩ := D.ex
  obtain rfl : dV = .none := by
    rcases hD with ⟨_, e⟩ | ⟨e, _⟩
    · exact e
    · exact absurd rfl e
  refine (StX.fn_star (sp := spB K T G F (ps ++ [pv]).length N.length g.body) lk hcd S ?_ (hb kV doc pm an cdv ct) (fun A outer s H vs Q E hr h => body_ok hF hf B S hc cdv A outer s H vs Q E hr h)).imp fun vs H Q E ⟨ds, d, r, ev, k⟩ => ?_
  · exact StX.cxUp_none
  · unfold runF bindF at ev
    rw [hs] at ev
    simp only at ev
    split at ev
    · rename_i zs e
      split at e
      · rename_i h1
        split at e
        · rename_i h2
          cases e
          have hle : ps.length ≤ ds.length := by rw [← hn]; exact Nat.le_of_ble_eq_true h1
          have hl := r.length
          refine ⟨vs.take ps.length, vs.drop ps.length, (List.take_append_drop _ _).symm, by rw [List.length_take]; omega, by rw [List.length_drop]; have := fit_le h2; omega, fun p hp => ?_⟩
          have sm := same_new (o := .tup (vs.drop ps.length)) hp
          refine ⟨ds.take ps.length ++ [.tup (ds.drop ps.length)], d, ((r.mono sm).take _).append (.cons (.tup (SqT.of upd_same) ((r.mono sm).drop _)) .nil), by rw [List.length_append, List.length_append, List.length_take]; simp; omega, by rw [← hsl, ← hn]; exact ev, fun v H' s' r' => k v H' (sm.trans s') r'⟩
        · cases e
      · cases e
    · cases ev
end
end Rp
namespace Rp
open PySem PySem.Spec PyProof.Rows L2
def N_init : List Str := ["self", "levels", "goal", "frames", "phase", "token"]
section
variable {P : Program} {w : World} {K : PySem.W.Frag} {mg : Str → Option Value} {base : Heap} {G : Gt} {F : Ft} {T : Cl} {m n k : Nat}
def sp6 (C : Addr) : Sp := fun vs H Q _ => ∃ x dx a b c d e, vs = [.ref x, a, b, c, d, e] ∧ H x = some (.ins C dx []) ∧
  ∀ H', (∀ b o, H b = some o → b ≠ x → H' b = some o) → H' x = some (.ins C dx [("levels", a), ("goal", b), ("frames", c), ("phase", d), ("token", e)]) → Q .non H'
def tInit (K : PySem.W.Frag) : TS := tSeq (sFld K (tVar 0) (tVar 1) "levels") (tSeq (sFld K (tVar 0) (tVar 2) "goal") (tSeq (sFld K (tVar 0) (tVar 3) "frames") (tSeq (sFld K (tVar 0) (tVar 4) "phase") (sFld K (tVar 0) (tVar 5) "token"))))
theorem sc_init : FnScope N_init N_init (defScope s_init) := ⟨by kernel_rfl, by kernel_rfl, by kernel_rfl, by decide +kernel, rfl, by decide +kernel, by decide +kernel⟩
theorem init_ok {f : Addr} {fd : FuncData} {dvs : List V} (hf : HF K w mg G T nm) (D : FunD K "__init__" "State.__init__" (defArgs s_init) (defBody s_init) (defScope s_init) dvs [] f fd) : FnOk P w K mg base CX0 1 f fd N_init (sp6 (T.at_ 0)) := by
  have na : ∀ x : Str, x ∈ nm.fld → NoAttr K (T.at_ 0) x := hf.noat
  have c := hf.cls
  refine D.ok sc_init (fun vs H Q E h => ?_) (fun cdv A outer s H vs Q E hr h => ⟨tInit K, PSs.nox ?_, ?_⟩)
  · obtain ⟨x, dx, a, b, c, d, e, rfl, _⟩ := h
    rfl
  · have v : ∀ (i : Nat) (x : Str) (p : Pos), N_init[i]? = some x → Vis (defScope s_init) x → (x == ("__debug__" : Str)) = false → (x == ("__classdict__" : Str)) = false → PE (cxOf CX0 P w K mg base N_init "State.__init__" (defScope s_init) f cdv A outer s H E).nox (.Name x p) (tVar i) :=
      fun i x p h1 h2 h3 h4 => pe_var h1 h2 h3 h4
    exact pss_cons (ps_fld (v 0 _ _ rfl (vis_of (by kernel_rfl)) rfl rfl) (v 1 _ _ rfl (vis_of (by kernel_rfl)) rfl rfl) rfl) (pss_cons (ps_fld (v 0 _ _ rfl (vis_of (by kernel_rfl)) rfl rfl) (v 2 _ _ rfl (vis_of (by kernel_rfl)) rfl rfl) rfl)
      (pss_cons (ps_fld (v 0 _ _ rfl (vis_of (by kernel_rfl)) rfl rfl) (v 3 _ _ rfl (vis_of (by kernel_rfl)) rfl rfl) rfl) (pss_cons (ps_fld (v 0 _ _ rfl (vis_of (by kernel_rfl)) rfl rfl) (v 4 _ _ rfl (vis_of (by kernel_rfl)) rfl rfl) rfl)
      (pss_one (ps_fld (v 0 _ _ rfl (vis_of (by kernel_rfl)) rfl rfl) (v 5 _ _ rfl (vis_of (by kernel_rfl)) rfl rfl) rfl)))))
  · obtain ⟨x, dx, a, b, c', d, e, rfl, hx, hQ⟩ := h
    refine ⟨_, rfl, _, rfl, x, _, dx, _, rfl, hx, c, na _ (by decide), Nat.le_of_ble_eq_true (by kernel_rfl), ?_⟩
    refine ⟨_, rfl, _, rfl, x, _, dx, _, rfl, upd_same, c, na _ (by decide), Nat.le_of_ble_eq_true (by kernel_rfl), ?_⟩
    refine ⟨_, rfl, _, rfl, x, _, dx, _, rfl, upd_same, c, na _ (by decide), Nat.le_of_ble_eq_true (by kernel_rfl), ?_⟩
    refine ⟨_, rfl, _, rfl, x, _, dx, _, rfl, upd_same, c, na _ (by decide), Nat.le_of_ble_eq_true (by kernel_rfl), ?_⟩
    refine ⟨_, rfl, _, rfl, x, _, dx, _, rfl, upd_same, c, na _ (by decide), Nat.le_of_ble_eq_true (by kernel_rfl), ?_⟩
    refine hQ _ (fun z o hz hne => ?_) ?_
    · rw [upd_ne hne, upd_ne hne, upd_ne hne, upd_ne hne, upd_ne hne]
      exact hz
    · rw [upd_same]
      rfl
/-- the making, however many arguments are written -/
theorem binds_init {f : Addr} {fd : FuncData} {dvs : List V} (D : FunD K "__init__" "State.__init__" (defArgs s_init) (defBody s_init) (defScope s_init) dvs [] f fd) (hl : dvs.length = 5) : ∀ j, j ≤ 5 → ∃ ds, Vals (dvs.drop j) ds ∧ Binds K fd N_init ds := by
  have h0 : dvs ≠ [] := fun z => by rw [z] at hl; cases hl
  intro j hj
  refine D.binds1 (j + 1) j h0 (by rw [hl]; show j + 1 + (5 - j) = 6; omega) fun T kV doc pm an cdv ct us its h1 h2 => ?_
  rw [hl] at h2
  match its, h2 with
  | [i1, i2, i3, i4, i5], _ =>
    match j, us, h1 with
    | 0, [a], _ => exact ⟨_, rfl, by kernel_rfl⟩
    | 1, [a, b], _ => exact ⟨_, rfl, by kernel_rfl⟩
    | 2, [a, b, c], _ => exact ⟨_, rfl, by kernel_rfl⟩
    | 3, [a, b, c, d], _ => exact ⟨_, rfl, by kernel_rfl⟩
    | 4, [a, b, c, d, e], _ => exact ⟨_, rfl, by kernel_rfl⟩
    | 5, [a, b, c, d, e, g], _ => exact ⟨_, rfl, by kernel_rfl⟩
    | j + 6, _, _ => omega
/-- the heap but for a new instance that is still empty -/
theorem rd_but {H H' : Hp} {x C dx a : Addr} {u : HO} (e : ∀ b o, H b = some o → b ≠ x → H' b = some o) (hx : H x = some (.ins C dx [])) (hu : u ≠ .ins C dx []) (h : Rd H a u) : Rd H' a u := by
  rcases h with h | ⟨od, h⟩
  · exact .inl (e _ _ h fun z => by rw [z, hx] at h; exact hu (Option.some.inj h).symm)
  · exact .inr ⟨od, e _ _ h fun z => by rw [z, hx] at h; cases h⟩
theorem sqT_but {H H' : Hp} {x C dx a : Addr} {vs : List V} (e : ∀ b o, H b = some o → b ≠ x → H' b = some o) (hx : H x = some (.ins C dx [])) (h : SqT K H a vs) : SqT K H' a vs := by
  rcases h with h | h
  · exact .inl (rd_but e hx (fun z => nomatch z) h)
  · exact .inr h
theorem lst_but {H H' : Hp} {x C dx a : Addr} {vs : List V} (e : ∀ b o, H b = some o → b ≠ x → H' b = some o) (hx : H x = some (.ins C dx [])) (h : Rd H a (.lst vs)) : Rd H' a (.lst vs) := rd_but e hx (fun z => nomatch z) h
theorem ne_dK {H : Hp} {x C dx a : Addr} {kvs : List (Key × V)} (hx : H x = some (.ins C dx [])) (h : H a = some (.dK kvs)) : a ≠ x := fun z => by
  rw [z, hx] at h
  cases h
theorem ne_in {H : Hp} {x C dx a C2 dx2 : Addr} {fs : List (Str × V)} {l : List Str} (hx : H x = some (.ins C dx [])) (hT : l ≠ []) (h : H a = some (.ins C2 dx2 fs)) (k : fs.map (·.1) = l) : a ≠ x := fun z => by
  rw [z, hx] at h
  cases h
  exact hT k.symm
section
variable {H H' : Hp} {x C dx : Addr} (e : ∀ b o, H b = some o → b ≠ x → H' b = some o) (hx : H x = some (.ins C dx [])) (hT : ∀ c, T.fld c ≠ [])
include e hx hT
mutual
theorem Rep.but : ∀ {v : V} {d : D}, Rep K T H v d → Rep K T H' v d
  | _, _, .non => .non
  | _, _, .bl b => .bl b
  | _, _, .int i => .int i
  | _, _, .str s => .str s
  | _, _, .tup h r => .tup (sqT_but e hx h) (RepL.but r)
  | _, _, .lst h r => .lst (lst_but e hx h) (RepL.but r)
  | _, _, .dic h k r => .dic (e _ _ h (ne_dK hx h)) k (RepL.but r)
  | _, _, .ins h k r => .ins (e _ _ h (ne_in hx (hT _) h k)) k (RepL.but r)
theorem RepL.but : ∀ {vs : List V} {ds : List D}, RepL K T H vs ds → RepL K T H' vs ds
  | _, _, .nil => .nil
  | _, _, .cons a b => .cons (Rep.but a) (RepL.but b)
end
end
theorem five {α : Type} {l : List α} (h : l.length = 5) : ∃ a b c d e, l = [a, b, c, d, e] := by
  match l, h with
  | [a, b, c, d, e], _ => exact ⟨a, b, c, d, e, rfl⟩
theorem mk_ok {f : Addr} {fd : FuncData} {dvs : List V} {dfl : List D} (hf : HF K w mg G T nm) (hT : ∀ c, T.fld c ≠ []) (D : FunD K "__init__" "State.__init__" (defArgs s_init) (defBody s_init) (defScope s_init) dvs [] f fd) (h5 : dfl.length = 5) (hd : ∀ H, RepL K T H dvs dfl) :
    FnR P w K mg base CX0 1 f (spI K T (mkSt dfl)) := by
  have hl : dvs.length = 5 := by rw [(hd fun _ => none).length, h5]
  intro A outer s H us vs Q E hr e0 r ⟨x, dx, ws, ds, fs, ev, hx, rw_, em, k⟩
  unfold mkSt at em
  split at em
  · rename_i hj
    have hj := Nat.le_of_ble_eq_true hj
    cases em
    obtain ⟨es, h3, h4⟩ := binds_init D hl ds.length hj
    have rz : RepL K T H (ws ++ dvs.drop ds.length) (ds ++ dfl.drop ds.length) := rw_.append ((hd H).drop _)
    have lz : (ws ++ dvs.drop ds.length).length = 5 := by rw [List.length_append, List.length_drop, rw_.length, hl]; omega
    obtain ⟨a, b, c, d, e, ez⟩ := five lz
    refine ((init_ok hf D).raw h4 h3) A outer s H us vs Q E hr e0 r ⟨x, dx, a, b, c, d, e, ?_, hx, fun H' hk hx' => k H' hk ?_⟩
    · rw [ev, List.cons_append, ez]
    · rw [ez] at rz
      refine .ins hx' ?_ ?_
      · rw [hf.fld]
        rfl
      · exact RepL.but hk hx hT rz
  · cases em
end
end Rp
namespace Rp
open PySem PySem.Spec PyProof.Rows L2
def scB (N P : List Str) (sc : Scope) : Bool := decide (sc.kind = .function) && (!sc.isCoroutine && (!sc.isGenerator && (decide N.Nodup && (decide (N.take P.length = P) && (P.all (fun x => locB sc x) && sc.names.all fun y => decide (y.2 ≠ .free))))))
theorem sc_ok {N P : List Str} {sc : Scope} (h : scB N P sc = true) : FnScope N P sc := by
  unfold scB at h
  simp only [Bool.and_eq_true, decide_eq_true_eq, Bool.not_eq_true'] at h
  obtain ⟨h1, h2, h3, h4, h5, h6, h7⟩ := h
  refine ⟨h1, h2, h3, h4, h5, fun x hx => ?_, fun y hy => ?_⟩
  · have := List.all_eq_true.mp h6 x hx
    unfold locB at this
    split at this
    · exact .inl (by assumption)
    · exact .inr (by assumption)
    · cases this
  · exact of_decide_eq_true (List.all_eq_true.mp h7 y hy)
theorem hF_ok : ∀ m ds d, FF m 0 ds = some d → ∃ fs, d = .ins 0 fs
  | 0, _, _, h => by cases h
  | m + 1, ds, d, h => by
    have h : mkSt sdfl ds = some d := h
    unfold mkSt at h
    split at h
    · cases h
      exact ⟨_, rfl⟩
    · cases h
theorem ff_eq (m i : Nat) (g : Fn) (h : prog (i + 1) = some g) : FF (m + 1) (i + 1) = runF gt (FF m) g := by
  funext ds
  show (match prog (i + 1) with
      | some g => runF gt (FF m) g ds
      | none => none) = _
  rw [h]
/-- what the head tells of one def -/
abbrev DK (K : PySem.W.Frag) (d : He.DefD) : Prop := ∃ fd, FunD K d.name d.qual d.params d.body d.scope (d.dvs K) (d.kws K) (He.fAd K d.at_) fd
section
variable {P : Program} {w : World} {K : PySem.W.Frag} {mg : Str → Option Value} {base : Heap} {T : Cl} {m : Nat}
theorem sc_consists_of : FnScope N_consists_of ["thing", "signs"] (defScope s_consists_of) := sc_ok (by kernel_rfl)
theorem k_consists_of (hf : HF K w mg gt T nm) (B : FF_ P w K mg base (FF m) T nm m) (D : DK K d_consists_of) : FnR P w K mg base CX0 (m + 3) (He.fAd K ("consists_of", none)) (spD K T (FF (m + 1) 1)) := by
  obtain ⟨fd, D⟩ := D
  rw [ff_eq m 0 f_consists_of rfl]
  exact def_plain (hF_ok m) hf B D sc_consists_of c_consists_of rfl rfl rfl rfl (D.bindsN fun _ _ _ _ _ _ us hl => match us, hl with | [_, _], _ => by kernel_rfl)
theorem sc_is_line : FnScope N_is_line ["thing"] (defScope s_is_line) := sc_ok (by kernel_rfl)
theorem k_is_line (hf : HF K w mg gt T nm) (B : FF_ P w K mg base (FF m) T nm m) (D : DK K d_is_line) : FnR P w K mg base CX0 (m + 3) (He.fAd K ("is_line", none)) (spD K T (FF (m + 1) 2)) := by
  obtain ⟨fd, D⟩ := D
  rw [ff_eq m 1 f_is_line rfl]
  exact def_plain (hF_ok m) hf B D sc_is_line c_is_line rfl rfl rfl rfl (D.bindsN fun _ _ _ _ _ _ us hl => match us, hl with | [_], _ => by kernel_rfl)
theorem sc_is_text : FnScope N_is_text ["thing"] (defScope s_is_text) := sc_ok (by kernel_rfl)
theorem k_is_text (hf : HF K w mg gt T nm) (B : FF_ P w K mg base (FF m) T nm m) (D : DK K d_is_text) : FnR P w K mg base CX0 (m + 3) (He.fAd K ("is_text", none)) (spD K T (FF (m + 1) 3)) := by
  obtain ⟨fd, D⟩ := D
  rw [ff_eq m 2 f_is_text rfl]
  exact def_plain (hF_ok m) hf B D sc_is_text c_is_text rfl rfl rfl rfl (D.bindsN fun _ _ _ _ _ _ us hl => match us, hl with | [_], _ => by kernel_rfl)
theorem sc_with_clauses : FnScope N_with_clauses ["levels", "clauses"] (defScope s_with_clauses) := sc_ok (by kernel_rfl)
theorem k_with_clauses (hf : HF K w mg gt T nm) (B : FF_ P w K mg base (FF m) T nm m) (D : DK K d_with_clauses) : FnR P w K mg base CX0 (m + 3) (He.fAd K ("with_clauses", none)) (spD K T (FF (m + 1) 4)) := by
  obtain ⟨fd, D⟩ := D
  rw [ff_eq m 3 f_with_clauses rfl]
  exact def_plain (hF_ok m) hf B D sc_with_clauses c_with_clauses rfl rfl rfl rfl (D.bindsN fun _ _ _ _ _ _ us hl => match us, hl with | [_, _], _ => by kernel_rfl)
theorem sc_after_line : FnScope N_after_line ["state"] (defScope s_after_line) := sc_ok (by kernel_rfl)
theorem k_after_line (hf : HF K w mg gt T nm) (B : FF_ P w K mg base (FF m) T nm m) (D : DK K d_after_line) : FnR P w K mg base CX0 (m + 3) (He.fAd K ("after_line", none)) (spD K T (FF (m + 1) 5)) := by
  obtain ⟨fd, D⟩ := D
  rw [ff_eq m 4 f_after_line rfl]
  exact def_plain (hF_ok m) hf B D sc_after_line c_after_line rfl rfl rfl rfl (D.bindsN fun _ _ _ _ _ _ us hl => match us, hl with | [_], _ => by kernel_rfl)
theorem sc_after_empty_line : FnScope N_after_empty_line ["state"] (defScope s_after_empty_line) := sc_ok (by kernel_rfl)
theorem k_after_empty_line (hf : HF K w mg gt T nm) (B : FF_ P w K mg base (FF m) T nm m) (D : DK K d_after_empty_line) : FnR P w K mg base CX0 (m + 3) (He.fAd K ("after_empty_line", none)) (spD K T (FF (m + 1) 6)) := by
  obtain ⟨fd, D⟩ := D
  rw [ff_eq m 5 f_after_empty_line rfl]
  exact def_plain (hF_ok m) hf B D sc_after_empty_line c_after_empty_line rfl rfl rfl rfl (D.bindsN fun _ _ _ _ _ _ us hl => match us, hl with | [_], _ => by kernel_rfl)
theorem sc_line_begun : FnScope N_line_begun ["state"] (defScope s_line_begun) := sc_ok (by kernel_rfl)
theorem k_line_begun (hf : HF K w mg gt T nm) (B : FF_ P w K mg base (FF m) T nm m) (D : DK K d_line_begun) : FnR P w K mg base CX0 (m + 3) (He.fAd K ("line_begun", none)) (spD K T (FF (m + 1) 7)) := by
  obtain ⟨fd, D⟩ := D
  rw [ff_eq m 6 f_line_begun rfl]
  exact def_plain (hF_ok m) hf B D sc_line_begun c_line_begun rfl rfl rfl rfl (D.bindsN fun _ _ _ _ _ _ us hl => match us, hl with | [_], _ => by kernel_rfl)
theorem sc_small_begun : FnScope N_small_begun ["state"] (defScope s_small_begun) := sc_ok (by kernel_rfl)
theorem k_small_begun (hf : HF K w mg gt T nm) (B : FF_ P w K mg base (FF m) T nm m) (D : DK K d_small_begun) : FnR P w K mg base CX0 (m + 3) (He.fAd K ("small_begun", none)) (spD K T (FF (m + 1) 8)) := by
  obtain ⟨fd, D⟩ := D
  rw [ff_eq m 7 f_small_begun rfl]
  exact def_plain (hF_ok m) hf B D sc_small_begun c_small_begun rfl rfl rfl rfl (D.bindsN fun _ _ _ _ _ _ us hl => match us, hl with | [_], _ => by kernel_rfl)
theorem sc_header_begun : FnScope N_header_begun ["state", "word"] (defScope s_header_begun) := sc_ok (by kernel_rfl)
theorem k_header_begun (hf : HF K w mg gt T nm) (B : FF_ P w K mg base (FF m) T nm m) (D : DK K d_header_begun) : FnR P w K mg base CX0 (m + 3) (He.fAd K ("header_begun", none)) (spD K T (FF (m + 1) 9)) := by
  obtain ⟨fd, D⟩ := D
  rw [ff_eq m 8 f_header_begun rfl]
  exact def_plain (hF_ok m) hf B D sc_header_begun c_header_begun rfl rfl rfl rfl (D.bindsN fun _ _ _ _ _ _ us hl => match us, hl with | [_, _], _ => by kernel_rfl)
theorem sc_after_word : FnScope N_after_word ["state", "word"] (defScope s_after_word) := sc_ok (by kernel_rfl)
theorem k_after_word (hf : HF K w mg gt T nm) (B : FF_ P w K mg base (FF m) T nm m) (D : DK K d_after_word) : FnR P w K mg base CX0 (m + 3) (He.fAd K ("after_word", none)) (spD K T (FF (m + 1) 10)) := by
  obtain ⟨fd, D⟩ := D
  rw [ff_eq m 9 f_after_word rfl]
  exact def_plain (hF_ok m) hf B D sc_after_word c_after_word rfl rfl rfl rfl (D.bindsN fun _ _ _ _ _ _ us hl => match us, hl with | [_, _], _ => by kernel_rfl)
theorem sc_may_assign : FnScope N_may_assign ["state", "phase"] (defScope s_may_assign) := sc_ok (by kernel_rfl)
theorem k_may_assign (hf : HF K w mg gt T nm) (B : FF_ P w K mg base (FF m) T nm m) (D : DK K d_may_assign) : FnR P w K mg base CX0 (m + 3) (He.fAd K ("may_assign", none)) (spD K T (FF (m + 1) 11)) := by
  obtain ⟨fd, D⟩ := D
  rw [ff_eq m 10 f_may_assign rfl]
  exact def_plain (hF_ok m) hf B D sc_may_assign c_may_assign rfl rfl rfl rfl (D.bindsN fun _ _ _ _ _ _ us hl => match us, hl with | [_, _], _ => by kernel_rfl)
theorem sc_after_short : FnScope N_after_short ["state", "sign"] (defScope s_after_short) := sc_ok (by kernel_rfl)
theorem k_after_short (hf : HF K w mg gt T nm) (B : FF_ P w K mg base (FF m) T nm m) (D : DK K d_after_short) : FnR P w K mg base CX0 (m + 3) (He.fAd K ("after_short", none)) (spD K T (FF (m + 1) 12)) := by
  obtain ⟨fd, D⟩ := D
  rw [ff_eq m 11 f_after_short rfl]
  exact def_plain (hF_ok m) hf B D sc_after_short c_after_short rfl rfl rfl rfl (D.bindsN fun _ _ _ _ _ _ us hl => match us, hl with | [_, _], _ => by kernel_rfl)
theorem sc_after_long : FnScope N_after_long ["state", "sign"] (defScope s_after_long) := sc_ok (by kernel_rfl)
theorem k_after_long (hf : HF K w mg gt T nm) (B : FF_ P w K mg base (FF m) T nm m) (D : DK K d_after_long) : FnR P w K mg base CX0 (m + 3) (He.fAd K ("after_long", none)) (spD K T (FF (m + 1) 13)) := by
  obtain ⟨fd, D⟩ := D
  rw [ff_eq m 12 f_after_long rfl]
  exact def_plain (hF_ok m) hf B D sc_after_long c_after_long rfl rfl rfl rfl (D.bindsN fun _ _ _ _ _ _ us hl => match us, hl with | [_, _], _ => by kernel_rfl)
theorem sc_after_template : FnScope N_after_template ["state", "sign"] (defScope s_after_template) := sc_ok (by kernel_rfl)
theorem k_after_template (hf : HF K w mg gt T nm) (B : FF_ P w K mg base (FF m) T nm m) (D : DK K d_after_template) : FnR P w K mg base CX0 (m + 3) (He.fAd K ("after_template", none)) (spD K T (FF (m + 1) 14)) := by
  obtain ⟨fd, D⟩ := D
  rw [ff_eq m 13 f_after_template rfl]
  exact def_plain (hF_ok m) hf B D sc_after_template c_after_template rfl rfl rfl rfl (D.bindsN fun _ _ _ _ _ _ us hl => match us, hl with | [_, _], _ => by kernel_rfl)
theorem sc_after_operator : FnScope N_after_operator ["state", "sign"] (defScope s_after_operator) := sc_ok (by kernel_rfl)
theorem k_after_operator (hf : HF K w mg gt T nm) (B : FF_ P w K mg base (FF m) T nm m) (D : DK K d_after_operator) : FnR P w K mg base CX0 (m + 3) (He.fAd K ("after_operator", none)) (spD K T (FF (m + 1) 15)) := by
  obtain ⟨fd, D⟩ := D
  rw [ff_eq m 14 f_after_operator rfl]
  exact def_plain (hF_ok m) hf B D sc_after_operator c_after_operator rfl rfl rfl rfl (D.bindsN fun _ _ _ _ _ _ us hl => match us, hl with | [_, _], _ => by kernel_rfl)
theorem sc_after_word_sign : FnScope N_after_word_sign ["state", "sign"] (defScope s_after_word_sign) := sc_ok (by kernel_rfl)
theorem k_after_word_sign (hf : HF K w mg gt T nm) (B : FF_ P w K mg base (FF m) T nm m) (D : DK K d_after_word_sign) : FnR P w K mg base CX0 (m + 3) (He.fAd K ("after_word_sign", none)) (spD K T (FF (m + 1) 16)) := by
  obtain ⟨fd, D⟩ := D
  rw [ff_eq m 15 f_after_word_sign rfl]
  exact def_plain (hF_ok m) hf B D sc_after_word_sign c_after_word_sign rfl rfl rfl rfl (D.bindsN fun _ _ _ _ _ _ us hl => match us, hl with | [_, _], _ => by kernel_rfl)
theorem sc_after_number : FnScope N_after_number ["state", "sign"] (defScope s_after_number) := sc_ok (by kernel_rfl)
theorem k_after_number (hf : HF K w mg gt T nm) (B : FF_ P w K mg base (FF m) T nm m) (D : DK K d_after_number) : FnR P w K mg base CX0 (m + 3) (He.fAd K ("after_number", none)) (spD K T (FF (m + 1) 17)) := by
  obtain ⟨fd, D⟩ := D
  rw [ff_eq m 16 f_after_number rfl]
  exact def_plain (hF_ok m) hf B D sc_after_number c_after_number rfl rfl rfl rfl (D.bindsN fun _ _ _ _ _ _ us hl => match us, hl with | [_, _], _ => by kernel_rfl)
theorem sc_after_quote : FnScope N_after_quote ["state", "sign"] (defScope s_after_quote) := sc_ok (by kernel_rfl)
theorem k_after_quote (hf : HF K w mg gt T nm) (B : FF_ P w K mg base (FF m) T nm m) (D : DK K d_after_quote) : FnR P w K mg base CX0 (m + 3) (He.fAd K ("after_quote", none)) (spD K T (FF (m + 1) 18)) := by
  obtain ⟨fd, D⟩ := D
  rw [ff_eq m 17 f_after_quote rfl]
  exact def_plain (hF_ok m) hf B D sc_after_quote c_after_quote rfl rfl rfl rfl (D.bindsN fun _ _ _ _ _ _ us hl => match us, hl with | [_, _], _ => by kernel_rfl)
theorem sc_after_token : FnScope N_after_token ["state", "sign"] (defScope s_after_token) := sc_ok (by kernel_rfl)
theorem k_after_token (hf : HF K w mg gt T nm) (B : FF_ P w K mg base (FF m) T nm m) (D : DK K d_after_token) : FnR P w K mg base CX0 (m + 3) (He.fAd K ("after_token", none)) (spD K T (FF (m + 1) 19)) := by
  obtain ⟨fd, D⟩ := D
  rw [ff_eq m 18 f_after_token rfl]
  exact def_plain (hF_ok m) hf B D sc_after_token c_after_token rfl rfl rfl rfl (D.bindsN fun _ _ _ _ _ _ us hl => match us, hl with | [_, _], _ => by kernel_rfl)
theorem sc_after_operand_sign : FnScope N_after_operand_sign ["state", "sign"] (defScope s_after_operand_sign) := sc_ok (by kernel_rfl)
theorem k_after_operand_sign (hf : HF K w mg gt T nm) (B : FF_ P w K mg base (FF m) T nm m) (D : DK K d_after_operand_sign) : FnR P w K mg base CX0 (m + 3) (He.fAd K ("after_operand_sign", none)) (spD K T (FF (m + 1) 20)) := by
  obtain ⟨fd, D⟩ := D
  rw [ff_eq m 19 f_after_operand_sign rfl]
  exact def_plain (hF_ok m) hf B D sc_after_operand_sign c_after_operand_sign rfl rfl rfl rfl (D.bindsN fun _ _ _ _ _ _ us hl => match us, hl with | [_, _], _ => by kernel_rfl)
theorem sc_after_comma : FnScope N_after_comma ["state"] (defScope s_after_comma) := sc_ok (by kernel_rfl)
theorem k_after_comma (hf : HF K w mg gt T nm) (B : FF_ P w K mg base (FF m) T nm m) (D : DK K d_after_comma) : FnR P w K mg base CX0 (m + 3) (He.fAd K ("after_comma", none)) (spD K T (FF (m + 1) 21)) := by
  obtain ⟨fd, D⟩ := D
  rw [ff_eq m 20 f_after_comma rfl]
  exact def_plain (hF_ok m) hf B D sc_after_comma c_after_comma rfl rfl rfl rfl (D.bindsN fun _ _ _ _ _ _ us hl => match us, hl with | [_], _ => by kernel_rfl)
theorem sc_after_colon : FnScope N_after_colon ["state"] (defScope s_after_colon) := sc_ok (by kernel_rfl)
theorem k_after_colon (hf : HF K w mg gt T nm) (B : FF_ P w K mg base (FF m) T nm m) (D : DK K d_after_colon) : FnR P w K mg base CX0 (m + 3) (He.fAd K ("after_colon", none)) (spD K T (FF (m + 1) 22)) := by
  obtain ⟨fd, D⟩ := D
  rw [ff_eq m 21 f_after_colon rfl]
  exact def_plain (hF_ok m) hf B D sc_after_colon c_after_colon rfl rfl rfl rfl (D.bindsN fun _ _ _ _ _ _ us hl => match us, hl with | [_], _ => by kernel_rfl)
theorem sc_after_done_sign : FnScope N_after_done_sign ["state", "sign"] (defScope s_after_done_sign) := sc_ok (by kernel_rfl)
theorem k_after_done_sign (hf : HF K w mg gt T nm) (B : FF_ P w K mg base (FF m) T nm m) (D : DK K d_after_done_sign) : FnR P w K mg base CX0 (m + 3) (He.fAd K ("after_done_sign", none)) (spD K T (FF (m + 1) 23)) := by
  obtain ⟨fd, D⟩ := D
  rw [ff_eq m 22 f_after_done_sign rfl]
  exact def_plain (hF_ok m) hf B D sc_after_done_sign c_after_done_sign rfl rfl rfl rfl (D.bindsN fun _ _ _ _ _ _ us hl => match us, hl with | [_, _], _ => by kernel_rfl)
theorem sc_after_code_sign : FnScope N_after_code_sign ["state", "sign"] (defScope s_after_code_sign) := sc_ok (by kernel_rfl)
theorem k_after_code_sign (hf : HF K w mg gt T nm) (B : FF_ P w K mg base (FF m) T nm m) (D : DK K d_after_code_sign) : FnR P w K mg base CX0 (m + 3) (He.fAd K ("after_code_sign", none)) (spD K T (FF (m + 1) 24)) := by
  obtain ⟨fd, D⟩ := D
  rw [ff_eq m 23 f_after_code_sign rfl]
  exact def_plain (hF_ok m) hf B D sc_after_code_sign c_after_code_sign rfl rfl rfl rfl (D.bindsN fun _ _ _ _ _ _ us hl => match us, hl with | [_, _], _ => by kernel_rfl)
theorem sc_after_start_sign : FnScope N_after_start_sign ["state", "sign"] (defScope s_after_start_sign) := sc_ok (by kernel_rfl)
theorem k_after_start_sign (hf : HF K w mg gt T nm) (B : FF_ P w K mg base (FF m) T nm m) (D : DK K d_after_start_sign) : FnR P w K mg base CX0 (m + 3) (He.fAd K ("after_start_sign", none)) (spD K T (FF (m + 1) 25)) := by
  obtain ⟨fd, D⟩ := D
  rw [ff_eq m 24 f_after_start_sign rfl]
  exact def_plain (hF_ok m) hf B D sc_after_start_sign c_after_start_sign rfl rfl rfl rfl (D.bindsN fun _ _ _ _ _ _ us hl => match us, hl with | [_, _], _ => by kernel_rfl)
theorem sc_after_plain : FnScope N_after_plain ["state", "sign"] (defScope s_after_plain) := sc_ok (by kernel_rfl)
theorem k_after_plain (hf : HF K w mg gt T nm) (B : FF_ P w K mg base (FF m) T nm m) (D : DK K d_after_plain) : FnR P w K mg base CX0 (m + 3) (He.fAd K ("after_plain", none)) (spD K T (FF (m + 1) 26)) := by
  obtain ⟨fd, D⟩ := D
  rw [ff_eq m 25 f_after_plain rfl]
  exact def_plain (hF_ok m) hf B D sc_after_plain c_after_plain rfl rfl rfl rfl (D.bindsN fun _ _ _ _ _ _ us hl => match us, hl with | [_, _], _ => by kernel_rfl)
theorem sc_next_state : FnScope N_next_state ["state", "sign"] (defScope s_next_state) := sc_ok (by kernel_rfl)
theorem k_next_state (hf : HF K w mg gt T nm) (B : FF_ P w K mg base (FF m) T nm m) (D : DK K d_next_state) : FnR P w K mg base CX0 (m + 3) (He.fAd K ("next_state", none)) (spD K T (FF (m + 1) 27)) := by
  obtain ⟨fd, D⟩ := D
  rw [ff_eq m 26 f_next_state rfl]
  exact def_plain (hF_ok m) hf B D sc_next_state c_next_state rfl rfl rfl rfl (D.bindsN fun _ _ _ _ _ _ us hl => match us, hl with | [_, _], _ => by kernel_rfl)
theorem sc_state_behind : FnScope N_state_behind ["state", "text"] (defScope s_state_behind) := sc_ok (by kernel_rfl)
theorem k_state_behind (hf : HF K w mg gt T nm) (B : FF_ P w K mg base (FF m) T nm m) (D : DK K d_state_behind) : FnR P w K mg base CX0 (m + 3) (He.fAd K ("state_behind", none)) (spD K T (FF (m + 1) 28)) := by
  obtain ⟨fd, D⟩ := D
  rw [ff_eq m 27 f_state_behind rfl]
  exact def_plain (hF_ok m) hf B D sc_state_behind c_state_behind rfl rfl rfl rfl (D.bindsN fun _ _ _ _ _ _ us hl => match us, hl with | [_, _], _ => by kernel_rfl)
theorem sc_state_of : FnScope N_state_of ["text"] (defScope s_state_of) := sc_ok (by kernel_rfl)
theorem k_state_of (hf : HF K w mg gt T nm) (B : FF_ P w K mg base (FF m) T nm m) (D : DK K d_state_of) : FnR P w K mg base CX0 (m + 3) (He.fAd K ("state_of", none)) (spD K T (FF (m + 1) 29)) := by
  obtain ⟨fd, D⟩ := D
  rw [ff_eq m 28 f_state_of rfl]
  exact def_plain (hF_ok m) hf B D sc_state_of c_state_of rfl rfl rfl rfl (D.bindsN fun _ _ _ _ _ _ us hl => match us, hl with | [_], _ => by kernel_rfl)
theorem sc_is_entry_state : FnScope N_is_entry_state ["state"] (defScope s_is_entry_state) := sc_ok (by kernel_rfl)
theorem k_is_entry_state (hf : HF K w mg gt T nm) (B : FF_ P w K mg base (FF m) T nm m) (D : DK K d_is_entry_state) : FnR P w K mg base CX0 (m + 3) (He.fAd K ("is_entry_state", none)) (spD K T (FF (m + 1) 30)) := by
  obtain ⟨fd, D⟩ := D
  rw [ff_eq m 29 f_is_entry_state rfl]
  exact def_plain (hF_ok m) hf B D sc_is_entry_state c_is_entry_state rfl rfl rfl rfl (D.bindsN fun _ _ _ _ _ _ us hl => match us, hl with | [_], _ => by kernel_rfl)
theorem sc_state_verdict : FnScope N_state_verdict ["state"] (defScope s_state_verdict) := sc_ok (by kernel_rfl)
theorem k_state_verdict (hf : HF K w mg gt T nm) (B : FF_ P w K mg base (FF m) T nm m) (D : DK K d_state_verdict) : FnR P w K mg base CX0 (m + 3) (He.fAd K ("state_verdict", none)) (spD K T (FF (m + 1) 31)) := by
  obtain ⟨fd, D⟩ := D
  rw [ff_eq m 30 f_state_verdict rfl]
  exact def_plain (hF_ok m) hf B D sc_state_verdict c_state_verdict rfl rfl rfl rfl (D.bindsN fun _ _ _ _ _ _ us hl => match us, hl with | [_], _ => by kernel_rfl)
theorem sc_is_index : FnScope N_is_index ["thing", "limit"] (defScope s_is_index) := sc_ok (by kernel_rfl)
theorem k_is_index (hf : HF K w mg gt T nm) (B : FF_ P w K mg base (FF m) T nm m) (D : DK K d_is_index) : FnR P w K mg base CX0 (m + 3) (He.fAd K ("is_index", none)) (spD K T (FF (m + 1) 32)) := by
  obtain ⟨fd, D⟩ := D
  rw [ff_eq m 31 f_is_index rfl]
  exact def_plain (hF_ok m) hf B D sc_is_index c_is_index rfl rfl rfl rfl (D.bindsN fun _ _ _ _ _ _ us hl => match us, hl with | [_, _], _ => by kernel_rfl)
theorem sc_is_entry : FnScope N_is_entry ["text"] (defScope s_is_entry) := sc_ok (by kernel_rfl)
theorem k_is_entry (hf : HF K w mg gt T nm) (B : FF_ P w K mg base (FF m) T nm m) (D : DK K d_is_entry) : FnR P w K mg base CX0 (m + 3) (He.fAd K ("is_entry", none)) (spD K T (FF (m + 1) 33)) := by
  obtain ⟨fd, D⟩ := D
  rw [ff_eq m 32 f_is_entry rfl]
  exact def_plain (hF_ok m) hf B D sc_is_entry c_is_entry rfl rfl rfl rfl (D.bindsN fun _ _ _ _ _ _ us hl => match us, hl with | [_], _ => by kernel_rfl)
theorem sc_is_count : FnScope N_is_count ["thing", "least"] (defScope s_is_count) := sc_ok (by kernel_rfl)
theorem k_is_count (hf : HF K w mg gt T nm) (B : FF_ P w K mg base (FF m) T nm m) (D : DK K d_is_count) : FnR P w K mg base CX0 (m + 3) (He.fAd K ("is_count", none)) (spD K T (FF (m + 1) 34)) := by
  obtain ⟨fd, D⟩ := D
  rw [ff_eq m 33 f_is_count rfl]
  exact def_plain (hF_ok m) hf B D sc_is_count c_is_count rfl rfl rfl rfl (D.bindsN fun _ _ _ _ _ _ us hl => match us, hl with | [_, _], _ => by kernel_rfl)
theorem sc__law_mixed : FnScope N__law_mixed ["_law_cell", "_law_k"] (defScope s__law_mixed) := sc_ok (by kernel_rfl)
theorem k__law_mixed (hf : HF K w mg gt T nm) (B : FF_ P w K mg base (FF m) T nm m) (D : DK K d__law_mixed) : FnR P w K mg base CX0 (m + 3) (He.fAd K ("_law_mixed", none)) (spD K T (FF (m + 1) 35)) := by
  obtain ⟨fd, D⟩ := D
  rw [ff_eq m 34 f__law_mixed rfl]
  exact def_plain (hF_ok m) hf B D sc__law_mixed c__law_mixed rfl rfl rfl rfl (D.bindsN fun _ _ _ _ _ _ us hl => match us, hl with | [_, _], _ => by kernel_rfl)
theorem sc__law_primary_end : FnScope N__law_primary_end ["_law_want", "_law_token"] (defScope s__law_primary_end) := sc_ok (by kernel_rfl)
theorem k__law_primary_end (hf : HF K w mg gt T nm) (B : FF_ P w K mg base (FF m) T nm m) (D : DK K d__law_primary_end) : FnR P w K mg base CX0 (m + 3) (He.fAd K ("_law_primary_end", none)) (spD K T (FF (m + 1) 36)) := by
  obtain ⟨fd, D⟩ := D
  rw [ff_eq m 35 f__law_primary_end rfl]
  exact def_plain (hF_ok m) hf B D sc__law_primary_end c__law_primary_end rfl rfl rfl rfl (D.bindsN fun _ _ _ _ _ _ us hl => match us, hl with | [_, _], _ => by kernel_rfl)
theorem sc__law_operand : FnScope N__law_operand ["_law_state", "_law_token"] (defScope s__law_operand) := sc_ok (by kernel_rfl)
theorem k__law_operand (hf : HF K w mg gt T nm) (B : FF_ P w K mg base (FF m) T nm m) (D : DK K d__law_operand) : FnR P w K mg base CX0 (m + 3) (He.fAd K ("_law_operand", none)) (spD K T (FF (m + 1) 37)) := by
  obtain ⟨fd, D⟩ := D
  rw [ff_eq m 36 f__law_operand rfl]
  exact def_plain (hF_ok m) hf B D sc__law_operand c__law_operand rfl rfl rfl rfl (D.bindsN fun _ _ _ _ _ _ us hl => match us, hl with | [_, _], _ => by kernel_rfl)
theorem sc__law_end_of : FnScope N__law_end_of ["_law_inner"] (defScope s__law_end_of) := sc_ok (by kernel_rfl)
theorem k__law_end_of (hf : HF K w mg gt T nm) (B : FF_ P w K mg base (FF m) T nm m) (D : DK K d__law_end_of) : FnR P w K mg base CX0 (m + 3) (He.fAd K ("_law_end_of", none)) (spD K T (FF (m + 1) 38)) := by
  obtain ⟨fd, D⟩ := D
  rw [ff_eq m 37 f__law_end_of rfl]
  exact def_plain (hF_ok m) hf B D sc__law_end_of c__law_end_of rfl rfl rfl rfl (D.bindsN fun _ _ _ _ _ _ us hl => match us, hl with | [_], _ => by kernel_rfl)
theorem sc__law_behind : FnScope N__law_behind ["_law_state", "_law_token"] (defScope s__law_behind) := sc_ok (by kernel_rfl)
theorem k__law_behind (hf : HF K w mg gt T nm) (B : FF_ P w K mg base (FF m) T nm m) (D : DK K d__law_behind) : FnR P w K mg base CX0 (m + 3) (He.fAd K ("_law_behind", none)) (spD K T (FF (m + 1) 39)) := by
  obtain ⟨fd, D⟩ := D
  rw [ff_eq m 38 f__law_behind rfl]
  exact def_plain (hF_ok m) hf B D sc__law_behind c__law_behind rfl rfl rfl rfl (D.bindsN fun _ _ _ _ _ _ us hl => match us, hl with | [_, _], _ => by kernel_rfl)
theorem sc__law_ended : FnScope N__law_ended ["_law_state", "_law_token"] (defScope s__law_ended) := sc_ok (by kernel_rfl)
theorem k__law_ended (hf : HF K w mg gt T nm) (B : FF_ P w K mg base (FF m) T nm m) (D : DK K d__law_ended) : FnR P w K mg base CX0 (m + 3) (He.fAd K ("_law_ended", none)) (spD K T (FF (m + 1) 40)) := by
  obtain ⟨fd, D⟩ := D
  rw [ff_eq m 39 f__law_ended rfl]
  exact def_plain (hF_ok m) hf B D sc__law_ended c__law_ended rfl rfl rfl rfl (D.bindsN fun _ _ _ _ _ _ us hl => match us, hl with | [_, _], _ => by kernel_rfl)
theorem sc__law_begun : FnScope N__law_begun ["_law_state", "_law_token"] (defScope s__law_begun) := sc_ok (by kernel_rfl)
theorem k__law_begun (hf : HF K w mg gt T nm) (B : FF_ P w K mg base (FF m) T nm m) (D : DK K d__law_begun) : FnR P w K mg base CX0 (m + 3) (He.fAd K ("_law_begun", none)) (spD K T (FF (m + 1) 41)) := by
  obtain ⟨fd, D⟩ := D
  rw [ff_eq m 40 f__law_begun rfl]
  exact def_plain (hF_ok m) hf B D sc__law_begun c__law_begun rfl rfl rfl rfl (D.bindsN fun _ _ _ _ _ _ us hl => match us, hl with | [_, _], _ => by kernel_rfl)
theorem sc__law_step : FnScope N__law_step ["_law_state", "_law_token"] (defScope s__law_step) := sc_ok (by kernel_rfl)
theorem k__law_step (hf : HF K w mg gt T nm) (B : FF_ P w K mg base (FF m) T nm m) (D : DK K d__law_step) : FnR P w K mg base CX0 (m + 3) (He.fAd K ("_law_step", none)) (spD K T (FF (m + 1) 42)) := by
  obtain ⟨fd, D⟩ := D
  rw [ff_eq m 41 f__law_step rfl]
  exact def_plain (hF_ok m) hf B D sc__law_step c__law_step rfl rfl rfl rfl (D.bindsN fun _ _ _ _ _ _ us hl => match us, hl with | [_, _], _ => by kernel_rfl)
theorem sc__law_line_end : FnScope N__law_line_end ["_law_state"] (defScope s__law_line_end) := sc_ok (by kernel_rfl)
theorem k__law_line_end (hf : HF K w mg gt T nm) (B : FF_ P w K mg base (FF m) T nm m) (D : DK K d__law_line_end) : FnR P w K mg base CX0 (m + 3) (He.fAd K ("_law_line_end", none)) (spD K T (FF (m + 1) 43)) := by
  obtain ⟨fd, D⟩ := D
  rw [ff_eq m 42 f__law_line_end rfl]
  exact def_plain (hF_ok m) hf B D sc__law_line_end c__law_line_end rfl rfl rfl rfl (D.bindsN fun _ _ _ _ _ _ us hl => match us, hl with | [_], _ => by kernel_rfl)
theorem sc__law_is_wordy : FnScope N__law_is_wordy ["_law_sign"] (defScope s__law_is_wordy) := sc_ok (by kernel_rfl)
theorem k__law_is_wordy (hf : HF K w mg gt T nm) (B : FF_ P w K mg base (FF m) T nm m) (D : DK K d__law_is_wordy) : FnR P w K mg base CX0 (m + 3) (He.fAd K ("_law_is_wordy", none)) (spD K T (FF (m + 1) 44)) := by
  obtain ⟨fd, D⟩ := D
  rw [ff_eq m 43 f__law_is_wordy rfl]
  exact def_plain (hF_ok m) hf B D sc__law_is_wordy c__law_is_wordy rfl rfl rfl rfl (D.bindsN fun _ _ _ _ _ _ us hl => match us, hl with | [_], _ => by kernel_rfl)
theorem sc__law_keywords : FnScope N__law_keywords [] (defScope s__law_keywords) := sc_ok (by kernel_rfl)
theorem k__law_keywords (hf : HF K w mg gt T nm) (B : FF_ P w K mg base (FF m) T nm m) (D : DK K d__law_keywords) : FnR P w K mg base CX0 (m + 3) (He.fAd K ("_law_keywords", none)) (spD K T (FF (m + 1) 45)) := by
  obtain ⟨fd, D⟩ := D
  rw [ff_eq m 44 f__law_keywords rfl]
  exact def_plain (hF_ok m) hf B D sc__law_keywords c__law_keywords rfl rfl rfl rfl (D.bindsN fun _ _ _ _ _ _ us hl => match us, hl with | [], _ => by kernel_rfl)
theorem sc__law_can : FnScope N__law_can ["_law_state", "_law_word"] (defScope s__law_can) := sc_ok (by kernel_rfl)
theorem k__law_can (hf : HF K w mg gt T nm) (B : FF_ P w K mg base (FF m) T nm m) (D : DK K d__law_can) : FnR P w K mg base CX0 (m + 3) (He.fAd K ("_law_can", none)) (spD K T (FF (m + 1) 46)) := by
  obtain ⟨fd, D⟩ := D
  rw [ff_eq m 45 f__law_can rfl]
  exact def_plain (hF_ok m) hf B D sc__law_can c__law_can rfl rfl rfl rfl (D.bindsN fun _ _ _ _ _ _ us hl => match us, hl with | [_, _], _ => by kernel_rfl)
theorem sc__law_line_begun : FnScope N__law_line_begun ["_law_state"] (defScope s__law_line_begun) := sc_ok (by kernel_rfl)
theorem k__law_line_begun (hf : HF K w mg gt T nm) (B : FF_ P w K mg base (FF m) T nm m) (D : DK K d__law_line_begun) : FnR P w K mg base CX0 (m + 3) (He.fAd K ("_law_line_begun", none)) (spD K T (FF (m + 1) 47)) := by
  obtain ⟨fd, D⟩ := D
  rw [ff_eq m 46 f__law_line_begun rfl]
  exact def_plain (hF_ok m) hf B D sc__law_line_begun c__law_line_begun rfl rfl rfl rfl (D.bindsN fun _ _ _ _ _ _ us hl => match us, hl with | [_], _ => by kernel_rfl)
theorem sc__law_front : FnScope N__law_front ["_law_state", "_law_sign"] (defScope s__law_front) := sc_ok (by kernel_rfl)
theorem k__law_front (hf : HF K w mg gt T nm) (B : FF_ P w K mg base (FF m) T nm m) (D : DK K d__law_front) : FnR P w K mg base CX0 (m + 3) (He.fAd K ("_law_front", none)) (spD K T (FF (m + 1) 48)) := by
  obtain ⟨fd, D⟩ := D
  rw [ff_eq m 47 f__law_front rfl]
  exact def_plain (hF_ok m) hf B D sc__law_front c__law_front rfl rfl rfl rfl (D.bindsN fun _ _ _ _ _ _ us hl => match us, hl with | [_, _], _ => by kernel_rfl)
theorem sc__law_code : FnScope N__law_code ["_law_state", "_law_sign"] (defScope s__law_code) := sc_ok (by kernel_rfl)
theorem k__law_code (hf : HF K w mg gt T nm) (B : FF_ P w K mg base (FF m) T nm m) (D : DK K d__law_code) : FnR P w K mg base CX0 (m + 3) (He.fAd K ("_law_code", none)) (spD K T (FF (m + 1) 49)) := by
  obtain ⟨fd, D⟩ := D
  rw [ff_eq m 48 f__law_code rfl]
  exact def_plain (hF_ok m) hf B D sc__law_code c__law_code rfl rfl rfl rfl (D.bindsN fun _ _ _ _ _ _ us hl => match us, hl with | [_, _], _ => by kernel_rfl)
theorem sc__law_in_text : FnScope N__law_in_text ["_law_state", "_law_mode", "_law_sign"] (defScope s__law_in_text) := sc_ok (by kernel_rfl)
theorem k__law_in_text (hf : HF K w mg gt T nm) (B : FF_ P w K mg base (FF m) T nm m) (D : DK K d__law_in_text) : FnR P w K mg base CX0 (m + 3) (He.fAd K ("_law_in_text", none)) (spD K T (FF (m + 1) 50)) := by
  obtain ⟨fd, D⟩ := D
  rw [ff_eq m 49 f__law_in_text rfl]
  exact def_plain (hF_ok m) hf B D sc__law_in_text c__law_in_text rfl rfl rfl rfl (D.bindsN fun _ _ _ _ _ _ us hl => match us, hl with | [_, _, _], _ => by kernel_rfl)
theorem sc__law_after : FnScope N__law_after ["_law_state", "_law_mode", "_law_sign"] (defScope s__law_after) := sc_ok (by kernel_rfl)
theorem k__law_after (hf : HF K w mg gt T nm) (B : FF_ P w K mg base (FF m) T nm m) (D : DK K d__law_after) : FnR P w K mg base CX0 (m + 3) (He.fAd K ("_law_after", none)) (spD K T (FF (m + 1) 51)) := by
  obtain ⟨fd, D⟩ := D
  rw [ff_eq m 50 f__law_after rfl]
  exact def_plain (hF_ok m) hf B D sc__law_after c__law_after rfl rfl rfl rfl (D.bindsN fun _ _ _ _ _ _ us hl => match us, hl with | [_, _, _], _ => by kernel_rfl)
theorem sc__law_after_start : FnScope N__law_after_start ["_law_state", "_law_mode", "_law_sign"] (defScope s__law_after_start) := sc_ok (by kernel_rfl)
theorem k__law_after_start (hf : HF K w mg gt T nm) (B : FF_ P w K mg base (FF m) T nm m) (D : DK K d__law_after_start) : FnR P w K mg base CX0 (m + 3) (He.fAd K ("_law_after_start", none)) (spD K T (FF (m + 1) 52)) := by
  obtain ⟨fd, D⟩ := D
  rw [ff_eq m 51 f__law_after_start rfl]
  exact def_plain (hF_ok m) hf B D sc__law_after_start c__law_after_start rfl rfl rfl rfl (D.bindsN fun _ _ _ _ _ _ us hl => match us, hl with | [_, _, _], _ => by kernel_rfl)
theorem sc__law_run : FnScope N__law_run ["_law_signs"] (defScope s__law_run) := sc_ok (by kernel_rfl)
theorem k__law_run (hf : HF K w mg gt T nm) (B : FF_ P w K mg base (FF m) T nm m) (D : DK K d__law_run) : FnR P w K mg base CX0 (m + 3) (He.fAd K ("_law_run", none)) (spD K T (FF (m + 1) 53)) := by
  obtain ⟨fd, D⟩ := D
  rw [ff_eq m 52 f__law_run rfl]
  exact def_plain (hF_ok m) hf B D sc__law_run c__law_run rfl rfl rfl rfl (D.bindsN fun _ _ _ _ _ _ us hl => match us, hl with | [_], _ => by kernel_rfl)
theorem sc__law_judged : FnScope N__law_judged ["_law_signs"] (defScope s__law_judged) := sc_ok (by kernel_rfl)
theorem k__law_judged (hf : HF K w mg gt T nm) (B : FF_ P w K mg base (FF m) T nm m) (D : DK K d__law_judged) : FnR P w K mg base CX0 (m + 3) (He.fAd K ("_law_judged", none)) (spD K T (FF (m + 1) 54)) := by
  obtain ⟨fd, D⟩ := D
  rw [ff_eq m 53 f__law_judged rfl]
  exact def_plain (hF_ok m) hf B D sc__law_judged c__law_judged rfl rfl rfl rfl (D.bindsN fun _ _ _ _ _ _ us hl => match us, hl with | [_], _ => by kernel_rfl)
theorem sc__law_settled : FnScope N__law_settled ["_law_waiting", "_law_kept"] (defScope s__law_settled) := sc_ok (by kernel_rfl)
theorem k__law_settled (hf : HF K w mg gt T nm) (B : FF_ P w K mg base (FF m) T nm m) (D : DK K d__law_settled) : FnR P w K mg base CX0 (m + 3) (He.fAd K ("_law_settled", none)) (spD K T (FF (m + 1) 55)) := by
  obtain ⟨fd, D⟩ := D
  rw [ff_eq m 54 f__law_settled rfl]
  exact def_plain (hF_ok m) hf B D sc__law_settled c__law_settled rfl rfl rfl rfl (D.bindsN fun _ _ _ _ _ _ us hl => match us, hl with | [_, _], _ => by kernel_rfl)
theorem sc_parts : FnScope N_parts ["self"] (defScope s_parts) := sc_ok (by kernel_rfl)
theorem k_parts (hf : HF K w mg gt T nm) (B : FF_ P w K mg base (FF m) T nm m) (D : DK K d_parts) : FnR P w K mg base CX0 (m + 3) (He.fAd K ("State", some "parts")) (spD K T (FF (m + 1) 56)) := by
  obtain ⟨fd, D⟩ := D
  rw [ff_eq m 55 f_parts rfl]
  exact def_plain (hF_ok m) hf B D sc_parts c_parts rfl rfl rfl rfl (D.bindsN fun _ _ _ _ _ _ us hl => match us, hl with | [_], _ => by kernel_rfl)
theorem sc_in_phase : FnScope N_in_phase ["self", "phase", "token"] (defScope s_in_phase) := sc_ok (by kernel_rfl)
theorem k_in_phase (hf : HF K w mg gt T nm) (B : FF_ P w K mg base (FF m) T nm m) (D : DK K d_in_phase) (hd : ∀ H, RepL K T H (d_in_phase.dvs K) f_in_phase.dfl) : FnR P w K mg base CX0 (m + 3) (He.fAd K ("State", some "in_phase")) (spD K T (FF (m + 1) 57)) := by
  obtain ⟨fd, D⟩ := D
  rw [ff_eq m 56 f_in_phase rfl]
  refine def_dfl (hF_ok m) hf B D sc_in_phase c_in_phase rfl rfl rfl hd fun j hj => ?_
  refine D.binds1 (2 + j) j (fun z => nomatch z) (by show 2 + j + (1 - j) = 3; have : j ≤ 1 := hj; omega) fun T kV doc pm an cdv ct us its h1 h2 => ?_
  match its, h2 with
  | [i1], _ =>
    match j, us, h1 with
    | 0, [a, b], _ => exact ⟨_, rfl, by kernel_rfl⟩
    | 1, [a, b, c], _ => exact ⟨_, rfl, by kernel_rfl⟩
    | j + 2, _, _ => exact absurd (show j + 2 ≤ 1 from hj) (by omega)
theorem sc_with_token : FnScope N_with_token ["self", "token"] (defScope s_with_token) := sc_ok (by kernel_rfl)
theorem k_with_token (hf : HF K w mg gt T nm) (B : FF_ P w K mg base (FF m) T nm m) (D : DK K d_with_token) : FnR P w K mg base CX0 (m + 3) (He.fAd K ("State", some "with_token")) (spD K T (FF (m + 1) 58)) := by
  obtain ⟨fd, D⟩ := D
  rw [ff_eq m 57 f_with_token rfl]
  exact def_star (ps := ["self"]) (pv := "token") (hF_ok m) hf B D sc_with_token c_with_token rfl rfl rfl fun _ _ _ _ _ _ us rest hl => match us, hl, rest with | [_], _, [] => by kernel_rfl | [_], _, _ :: _ => by kernel_rfl
theorem sc_opened : FnScope N_opened ["self", "kind", "behind", "phase"] (defScope s_opened) := sc_ok (by kernel_rfl)
theorem k_opened (hf : HF K w mg gt T nm) (B : FF_ P w K mg base (FF m) T nm m) (D : DK K d_opened) : FnR P w K mg base CX0 (m + 3) (He.fAd K ("State", some "opened")) (spD K T (FF (m + 1) 59)) := by
  obtain ⟨fd, D⟩ := D
  rw [ff_eq m 58 f_opened rfl]
  exact def_plain (hF_ok m) hf B D sc_opened c_opened rfl rfl rfl rfl (D.bindsN fun _ _ _ _ _ _ us hl => match us, hl with | [_, _, _, _], _ => by kernel_rfl)
theorem sc_reframed : FnScope N_reframed ["self", "kind", "phase"] (defScope s_reframed) := sc_ok (by kernel_rfl)
theorem k_reframed (hf : HF K w mg gt T nm) (B : FF_ P w K mg base (FF m) T nm m) (D : DK K d_reframed) : FnR P w K mg base CX0 (m + 3) (He.fAd K ("State", some "reframed")) (spD K T (FF (m + 1) 60)) := by
  obtain ⟨fd, D⟩ := D
  rw [ff_eq m 59 f_reframed rfl]
  exact def_plain (hF_ok m) hf B D sc_reframed c_reframed rfl rfl rfl rfl (D.bindsN fun _ _ _ _ _ _ us hl => match us, hl with | [_, _, _], _ => by kernel_rfl)
theorem sc_closed : FnScope N_closed ["self"] (defScope s_closed) := sc_ok (by kernel_rfl)
theorem k_closed (hf : HF K w mg gt T nm) (B : FF_ P w K mg base (FF m) T nm m) (D : DK K d_closed) : FnR P w K mg base CX0 (m + 3) (He.fAd K ("State", some "closed")) (spD K T (FF (m + 1) 61)) := by
  obtain ⟨fd, D⟩ := D
  rw [ff_eq m 60 f_closed rfl]
  exact def_plain (hF_ok m) hf B D sc_closed c_closed rfl rfl rfl rfl (D.bindsN fun _ _ _ _ _ _ us hl => match us, hl with | [_], _ => by kernel_rfl)
theorem sc_innermost : FnScope N_innermost ["self"] (defScope s_innermost) := sc_ok (by kernel_rfl)
theorem k_innermost (hf : HF K w mg gt T nm) (B : FF_ P w K mg base (FF m) T nm m) (D : DK K d_innermost) : FnR P w K mg base CX0 (m + 3) (He.fAd K ("State", some "innermost")) (spD K T (FF (m + 1) 62)) := by
  obtain ⟨fd, D⟩ := D
  rw [ff_eq m 61 f_innermost rfl]
  exact def_plain (hF_ok m) hf B D sc_innermost c_innermost rfl rfl rfl rfl (D.bindsN fun _ _ _ _ _ _ us hl => match us, hl with | [_], _ => by kernel_rfl)
theorem sc_is_prefix : FnScope N_is_prefix ["self", "word"] (defScope s_is_prefix) := sc_ok (by kernel_rfl)
theorem k_is_prefix (hf : HF K w mg gt T nm) (B : FF_ P w K mg base (FF m) T nm m) (D : DK K d_is_prefix) : FnR P w K mg base CX0 (m + 3) (He.fAd K ("State", some "is_prefix")) (spD K T (FF (m + 1) 63)) := by
  obtain ⟨fd, D⟩ := D
  rw [ff_eq m 62 f_is_prefix rfl]
  exact def_plain (hF_ok m) hf B D sc_is_prefix c_is_prefix rfl rfl rfl rfl (D.bindsN fun _ _ _ _ _ _ us hl => match us, hl with | [_, _], _ => by kernel_rfl)
end
structure DH (P : Program) (w : World) (K : PySem.W.Frag) (mg : Str → Option Value) (T : Cl) : Prop where
  hf : HF K w mg gt T nm
  defs : ∀ d ∈ fnl, DK K d
  glo : ∀ p ∈ nm.fid, mg p.1 = some (.ref (He.fAd K (p.1, none)))
  meth : ∀ p ∈ nm.mid, Meth K (T.at_ 0) p.1 (He.fAd K ("State", some p.1))
  dfi : ∀ H, RepL K T H (d_in_phase.dvs K) f_in_phase.dfl
  dfs : ∀ H, RepL K T H (d_init.dvs K) sdfl
  fl : ∀ c, T.fld c ≠ []
  st : mg "State" = some (.ref (T.at_ 0))
  mk_ : Mk K (T.at_ 0) (He.fAd K ("State", some "__init__"))
section
variable {P : Program} {w : World} {K : PySem.W.Frag} {mg : Str → Option Value} {base : Heap} {T : Cl} {m : Nat}
theorem forall_cons {α : Type} {p : α → Prop} {a : α} {l : List α} (h : p a) (t : ∀ x ∈ l, p x) : ∀ x ∈ a :: l, p x := fun x hx => (List.mem_cons.mp hx).elim (fun e => e ▸ h) (t x)
theorem forall_nil {α : Type} {p : α → Prop} : ∀ x ∈ ([] : List α), p x := fun x hx => absurd hx List.not_mem_nil
theorem all_fn (h : DH P w K mg T) (B : FF_ P w K mg base (FF m) T nm m) : ∀ p ∈ nm.fid, FnR P w K mg base CX0 (m + 3) (He.fAd K (p.1, none)) (spD K T (FF (m + 1) p.2)) :=
  forall_cons (k_consists_of h.hf B (h.defs d_consists_of (List.mem_of_getElem? (i := 1) rfl))) (
  forall_cons (k_is_line h.hf B (h.defs d_is_line (List.mem_of_getElem? (i := 2) rfl))) (
  forall_cons (k_is_text h.hf B (h.defs d_is_text (List.mem_of_getElem? (i := 3) rfl))) (
  forall_cons (k_with_clauses h.hf B (h.defs d_with_clauses (List.mem_of_getElem? (i := 4) rfl))) (
  forall_cons (k_after_line h.hf B (h.defs d_after_line (List.mem_of_getElem? (i := 5) rfl))) (
  forall_cons (k_after_empty_line h.hf B (h.defs d_after_empty_line (List.mem_of_getElem? (i := 6) rfl))) (
  forall_cons (k_line_begun h.hf B (h.defs d_line_begun (List.mem_of_getElem? (i := 7) rfl))) (
  forall_cons (k_small_begun h.hf B (h.defs d_small_begun (List.mem_of_getElem? (i := 8) rfl))) (
  forall_cons (k_header_begun h.hf B (h.defs d_header_begun (List.mem_of_getElem? (i := 9) rfl))) (
  forall_cons (k_after_word h.hf B (h.defs d_after_word (List.mem_of_getElem? (i := 10) rfl))) (
  forall_cons (k_may_assign h.hf B (h.defs d_may_assign (List.mem_of_getElem? (i := 11) rfl))) (
  forall_cons (k_after_short h.hf B (h.defs d_after_short (List.mem_of_getElem? (i := 12) rfl))) (
  forall_cons (k_after_long h.hf B (h.defs d_after_long (List.mem_of_getElem? (i := 13) rfl))) (
  forall_cons (k_after_template h.hf B (h.defs d_after_template (List.mem_of_getElem? (i := 14) rfl))) (
  forall_cons (k_after_operator h.hf B (h.defs d_after_operator (List.mem_of_getElem? (i := 15) rfl))) (
  forall_cons (k_after_word_sign h.hf B (h.defs d_after_word_sign (List.mem_of_getElem? (i := 16) rfl))) (
  forall_cons (k_after_number h.hf B (h.defs d_after_number (List.mem_of_getElem? (i := 17) rfl))) (
  forall_cons (k_after_quote h.hf B (h.defs d_after_quote (List.mem_of_getElem? (i := 18) rfl))) (
  forall_cons (k_after_token h.hf B (h.defs d_after_token (List.mem_of_getElem? (i := 19) rfl))) (
  forall_cons (k_after_operand_sign h.hf B (h.defs d_after_operand_sign (List.mem_of_getElem? (i := 20) rfl))) (
  forall_cons (k_after_comma h.hf B (h.defs d_after_comma (List.mem_of_getElem? (i := 21) rfl))) (
  forall_cons (k_after_colon h.hf B (h.defs d_after_colon (List.mem_of_getElem? (i := 22) rfl))) (
  forall_cons (k_after_done_sign h.hf B (h.defs d_after_done_sign (List.mem_of_getElem? (i := 23) rfl))) (
  forall_cons (k_after_code_sign h.hf B (h.defs d_after_code_sign (List.mem_of_getElem? (i := 24) rfl))) (
  forall_cons (k_after_start_sign h.hf B (h.defs d_after_start_sign (List.mem_of_getElem? (i := 25) rfl))) (
  forall_cons (k_after_plain h.hf B (h.defs d_after_plain (List.mem_of_getElem? (i := 26) rfl))) (
  forall_cons (k_next_state h.hf B (h.defs d_next_state (List.mem_of_getElem? (i := 27) rfl))) (
  forall_cons (k_state_behind h.hf B (h.defs d_state_behind (List.mem_of_getElem? (i := 28) rfl))) (
  forall_cons (k_state_of h.hf B (h.defs d_state_of (List.mem_of_getElem? (i := 29) rfl))) (
  forall_cons (k_is_entry_state h.hf B (h.defs d_is_entry_state (List.mem_of_getElem? (i := 30) rfl))) (
  forall_cons (k_state_verdict h.hf B (h.defs d_state_verdict (List.mem_of_getElem? (i := 31) rfl))) (
  forall_cons (k_is_index h.hf B (h.defs d_is_index (List.mem_of_getElem? (i := 32) rfl))) (
  forall_cons (k_is_entry h.hf B (h.defs d_is_entry (List.mem_of_getElem? (i := 33) rfl))) (
  forall_cons (k_is_count h.hf B (h.defs d_is_count (List.mem_of_getElem? (i := 34) rfl))) (
  forall_cons (k__law_mixed h.hf B (h.defs d__law_mixed (List.mem_of_getElem? (i := 35) rfl))) (
  forall_cons (k__law_primary_end h.hf B (h.defs d__law_primary_end (List.mem_of_getElem? (i := 36) rfl))) (
  forall_cons (k__law_operand h.hf B (h.defs d__law_operand (List.mem_of_getElem? (i := 37) rfl))) (
  forall_cons (k__law_end_of h.hf B (h.defs d__law_end_of (List.mem_of_getElem? (i := 38) rfl))) (
  forall_cons (k__law_behind h.hf B (h.defs d__law_behind (List.mem_of_getElem? (i := 39) rfl))) (
  forall_cons (k__law_ended h.hf B (h.defs d__law_ended (List.mem_of_getElem? (i := 40) rfl))) (
  forall_cons (k__law_begun h.hf B (h.defs d__law_begun (List.mem_of_getElem? (i := 41) rfl))) (
  forall_cons (k__law_step h.hf B (h.defs d__law_step (List.mem_of_getElem? (i := 42) rfl))) (
  forall_cons (k__law_line_end h.hf B (h.defs d__law_line_end (List.mem_of_getElem? (i := 43) rfl))) (
  forall_cons (k__law_is_wordy h.hf B (h.defs d__law_is_wordy (List.mem_of_getElem? (i := 44) rfl))) (
  forall_cons (k__law_keywords h.hf B (h.defs d__law_keywords (List.mem_of_getElem? (i := 45) rfl))) (
  forall_cons (k__law_can h.hf B (h.defs d__law_can (List.mem_of_getElem? (i := 46) rfl))) (
  forall_cons (k__law_line_begun h.hf B (h.defs d__law_line_begun (List.mem_of_getElem? (i := 47) rfl))) (
  forall_cons (k__law_front h.hf B (h.defs d__law_front (List.mem_of_getElem? (i := 48) rfl))) (
  forall_cons (k__law_code h.hf B (h.defs d__law_code (List.mem_of_getElem? (i := 49) rfl))) (
  forall_cons (k__law_in_text h.hf B (h.defs d__law_in_text (List.mem_of_getElem? (i := 50) rfl))) (
  forall_cons (k__law_after h.hf B (h.defs d__law_after (List.mem_of_getElem? (i := 51) rfl))) (
  forall_cons (k__law_after_start h.hf B (h.defs d__law_after_start (List.mem_of_getElem? (i := 52) rfl))) (
  forall_cons (k__law_run h.hf B (h.defs d__law_run (List.mem_of_getElem? (i := 53) rfl))) (
  forall_cons (k__law_judged h.hf B (h.defs d__law_judged (List.mem_of_getElem? (i := 54) rfl))) (
  forall_cons (k__law_settled h.hf B (h.defs d__law_settled (List.mem_of_getElem? (i := 55) rfl))) (
  forall_nil)))))))))))))))))))))))))))))))))))))))))))))))))))))))
theorem all_mt (h : DH P w K mg T) (B : FF_ P w K mg base (FF m) T nm m) : ∀ p ∈ nm.mid, FnR P w K mg base CX0 (m + 3) (He.fAd K ("State", some p.1)) (spD K T (FF (m + 1) p.2)) :=
  forall_cons (k_parts h.hf B (h.defs d_parts (List.mem_of_getElem? (i := 56) rfl))) (
  forall_cons (k_in_phase h.hf B (h.defs d_in_phase (List.mem_of_getElem? (i := 57) rfl)) h.dfi) (
  forall_cons (k_with_token h.hf B (h.defs d_with_token (List.mem_of_getElem? (i := 58) rfl))) (
  forall_cons (k_opened h.hf B (h.defs d_opened (List.mem_of_getElem? (i := 59) rfl))) (
  forall_cons (k_reframed h.hf B (h.defs d_reframed (List.mem_of_getElem? (i := 60) rfl))) (
  forall_cons (k_closed h.hf B (h.defs d_closed (List.mem_of_getElem? (i := 61) rfl))) (
  forall_cons (k_innermost h.hf B (h.defs d_innermost (List.mem_of_getElem? (i := 62) rfl))) (
  forall_cons (k_is_prefix h.hf B (h.defs d_is_prefix (List.mem_of_getElem? (i := 63) rfl))) (
  forall_nil))))))))
theorem keep_of {d : He.DefD} (h : DK K d) : PySem.W.keepIn K (.ref (He.fAd K d.at_)) = true := let ⟨_, D⟩ := h; D.kp
theorem keep_fid (h : ∀ d ∈ fnl, DK K d) : ∀ p ∈ nm.fid, PySem.W.keepIn K (.ref (He.fAd K (p.1, none))) = true :=
  forall_cons (keep_of (h d_consists_of (List.mem_of_getElem? (i := 1) rfl))) (
  forall_cons (keep_of (h d_is_line (List.mem_of_getElem? (i := 2) rfl))) (
  forall_cons (keep_of (h d_is_text (List.mem_of_getElem? (i := 3) rfl))) (
  forall_cons (keep_of (h d_with_clauses (List.mem_of_getElem? (i := 4) rfl))) (
  forall_cons (keep_of (h d_after_line (List.mem_of_getElem? (i := 5) rfl))) (
  forall_cons (keep_of (h d_after_empty_line (List.mem_of_getElem? (i := 6) rfl))) (
  forall_cons (keep_of (h d_line_begun (List.mem_of_getElem? (i := 7) rfl))) (
  forall_cons (keep_of (h d_small_begun (List.mem_of_getElem? (i := 8) rfl))) (
  forall_cons (keep_of (h d_header_begun (List.mem_of_getElem? (i := 9) rfl))) (
  forall_cons (keep_of (h d_after_word (List.mem_of_getElem? (i := 10) rfl))) (
  forall_cons (keep_of (h d_may_assign (List.mem_of_getElem? (i := 11) rfl))) (
  forall_cons (keep_of (h d_after_short (List.mem_of_getElem? (i := 12) rfl))) (
  forall_cons (keep_of (h d_after_long (List.mem_of_getElem? (i := 13) rfl))) (
  forall_cons (keep_of (h d_after_template (List.mem_of_getElem? (i := 14) rfl))) (
  forall_cons (keep_of (h d_after_operator (List.mem_of_getElem? (i := 15) rfl))) (
  forall_cons (keep_of (h d_after_word_sign (List.mem_of_getElem? (i := 16) rfl))) (
  forall_cons (keep_of (h d_after_number (List.mem_of_getElem? (i := 17) rfl))) (
  forall_cons (keep_of (h d_after_quote (List.mem_of_getElem? (i := 18) rfl))) (
  forall_cons (keep_of (h d_after_token (List.mem_of_getElem? (i := 19) rfl))) (
  forall_cons (keep_of (h d_after_operand_sign (List.mem_of_getElem? (i := 20) rfl))) (
  forall_cons (keep_of (h d_after_comma (List.mem_of_getElem? (i := 21) rfl))) (
  forall_cons (keep_of (h d_after_colon (List.mem_of_getElem? (i := 22) rfl))) (
  forall_cons (keep_of (h d_after_done_sign (List.mem_of_getElem? (i := 23) rfl))) (
  forall_cons (keep_of (h d_after_code_sign (List.mem_of_getElem? (i := 24) rfl))) (
  forall_cons (keep_of (h d_after_start_sign (List.mem_of_getElem? (i := 25) rfl))) (
  forall_cons (keep_of (h d_after_plain (List.mem_of_getElem? (i := 26) rfl))) (
  forall_cons (keep_of (h d_next_state (List.mem_of_getElem? (i := 27) rfl))) (
  forall_cons (keep_of (h d_state_behind (List.mem_of_getElem? (i := 28) rfl))) (
  forall_cons (keep_of (h d_state_of (List.mem_of_getElem? (i := 29) rfl))) (
  forall_cons (keep_of (h d_is_entry_state (List.mem_of_getElem? (i := 30) rfl))) (
  forall_cons (keep_of (h d_state_verdict (List.mem_of_getElem? (i := 31) rfl))) (
  forall_cons (keep_of (h d_is_index (List.mem_of_getElem? (i := 32) rfl))) (
  forall_cons (keep_of (h d_is_entry (List.mem_of_getElem? (i := 33) rfl))) (
  forall_cons (keep_of (h d_is_count (List.mem_of_getElem? (i := 34) rfl))) (
  forall_cons (keep_of (h d__law_mixed (List.mem_of_getElem? (i := 35) rfl))) (
  forall_cons (keep_of (h d__law_primary_end (List.mem_of_getElem? (i := 36) rfl))) (
  forall_cons (keep_of (h d__law_operand (List.mem_of_getElem? (i := 37) rfl))) (
  forall_cons (keep_of (h d__law_end_of (List.mem_of_getElem? (i := 38) rfl))) (
  forall_cons (keep_of (h d__law_behind (List.mem_of_getElem? (i := 39) rfl))) (
  forall_cons (keep_of (h d__law_ended (List.mem_of_getElem? (i := 40) rfl))) (
  forall_cons (keep_of (h d__law_begun (List.mem_of_getElem? (i := 41) rfl))) (
  forall_cons (keep_of (h d__law_step (List.mem_of_getElem? (i := 42) rfl))) (
  forall_cons (keep_of (h d__law_line_end (List.mem_of_getElem? (i := 43) rfl))) (
  forall_cons (keep_of (h d__law_is_wordy (List.mem_of_getElem? (i := 44) rfl))) (
  forall_cons (keep_of (h d__law_keywords (List.mem_of_getElem? (i := 45) rfl))) (
  forall_cons (keep_of (h d__law_can (List.mem_of_getElem? (i := 46) rfl))) (
  forall_cons (keep_of (h d__law_line_begun (List.mem_of_getElem? (i := 47) rfl))) (
  forall_cons (keep_of (h d__law_front (List.mem_of_getElem? (i := 48) rfl))) (
  forall_cons (keep_of (h d__law_code (List.mem_of_getElem? (i := 49) rfl))) (
  forall_cons (keep_of (h d__law_in_text (List.mem_of_getElem? (i := 50) rfl))) (
  forall_cons (keep_of (h d__law_after (List.mem_of_getElem? (i := 51) rfl))) (
  forall_cons (keep_of (h d__law_after_start (List.mem_of_getElem? (i := 52) rfl))) (
  forall_cons (keep_of (h d__law_run (List.mem_of_getElem? (i := 53) rfl))) (
  forall_cons (keep_of (h d__law_judged (List.mem_of_getElem? (i := 54) rfl))) (
  forall_cons (keep_of (h d__law_settled (List.mem_of_getElem? (i := 55) rfl))) (
  forall_nil)))))))))))))))))))))))))))))))))))))))))))))))))))))))
theorem never_R {k : Nat} {f : Addr} : FnR P w K mg base CX0 k f (spD K T fun _ => none) := fun A outer s H us vs Q E hr e0 r ⟨ds, d, _, e, _⟩ => by cases e
theorem neverI_R {k : Nat} {f : Addr} : FnR P w K mg base CX0 k f (spI K T fun _ => none) := fun A outer s H us vs Q E hr e0 r ⟨_, _, _, ds, fs, _, _, _, e, _⟩ => by cases e
theorem all_ok (h : DH P w K mg T) : ∀ m, FF_ P w K mg base (FF m) T nm m
  | 0 => ⟨fun x f e => ⟨_, h.glo _ (lookup_mem' e), keep_fid h.defs _ (lookup_mem' e), never_R⟩, fun x f e => ⟨_, h.meth _ (lookup_mem' e), never_R⟩, ⟨_, h.st, h.mk_, neverI_R⟩⟩
  | m + 1 => by
    have B := all_ok h m
    refine ⟨fun x f e => ⟨_, h.glo _ (lookup_mem' e), keep_fid h.defs _ (lookup_mem' e), all_fn h B _ (lookup_mem' e)⟩, fun x f e => ⟨_, h.meth _ (lookup_mem' e), all_mt h B _ (lookup_mem' e)⟩, ⟨_, h.st, h.mk_, ?_⟩⟩
    obtain ⟨fd, D⟩ := h.defs d_init (List.mem_of_getElem? (i := 0) rfl)
    exact (mk_ok h.hf h.fl D rfl h.dfs).mono (by omega)
end
end Rp
namespace Rp
open PySem PySem.Spec PyProof.Rows L2
def H_check_text : List Str := ["text"]
theorem hc_check_text : FnScope H_check_text ["text"] (defScope h_check_text) := sc_ok (by kernel_rfl)
def H_read_on : List Str := ["lines", "first", "lead", "found", "state", "at", "good"]
theorem hc_read_on : FnScope H_read_on ["lines", "first", "lead"] (defScope h_read_on) := sc_ok (by kernel_rfl)
def H_reread : List Str := ["lines", "leads", "known", "spot", "first", "found", "at", "old", "state", "column"]
theorem hc_reread : FnScope H_reread ["lines", "leads", "known", "spot"] (defScope h_reread) := sc_ok (by kernel_rfl)
def H_check_line : List Str := ["thing"]
theorem hc_check_line : FnScope H_check_line ["thing"] (defScope h_check_line) := sc_ok (by kernel_rfl)
def H_law_begin : List Str := ["_law_script"]
theorem hc_law_begin : FnScope H_law_begin ["_law_script"] (defScope h_law_begin) := sc_ok (by kernel_rfl)
def H_law_next : List Str := ["_law_draw", "_law_bound", "_law_found", "_law_cells", "_law_cell"]
theorem hc_law_next : FnScope H_law_next ["_law_draw", "_law_bound"] (defScope h_law_next) := sc_ok (by kernel_rfl)
def H_law_rough : List Str := ["_law_draw", "_law_most", "_law_some", "_law_k"]
theorem hc_law_rough : FnScope H_law_rough ["_law_draw", "_law_most"] (defScope h_law_rough) := sc_ok (by kernel_rfl)
def H_law_is_so : List Str := ["_law_console", "_law_waiting", "_law_history", "_law_kept", "_law_signs", "_law_verdict", "_law_at", "_law_spot", "_law_prompt", "_law_one"]
theorem hc_law_is_so : FnScope H_law_is_so ["_law_console", "_law_waiting", "_law_history", "_law_kept"] (defScope h_law_is_so) := sc_ok (by kernel_rfl)
def H_law_right : List Str := ["_law_draw", "_law_history", "_law_waiting", "_law_kept", "_law_console", "_law_again", "_law_is_wrong", "_law_told", "_law_at", "_law_item", "_law_due"]
theorem hc_law_right : FnScope H_law_right ["_law_draw"] (defScope h_law_right) := sc_ok (by kernel_rfl)
def H_law : List Str := ["_law_script", "_law_draw", "_law_turn"]
theorem hc_law : FnScope H_law ["_law_script"] (defScope h_law) := sc_ok (by kernel_rfl)
def H_b_init : List Str := ["self", "lines", "line", "begin", "leads", "spot", "work"]
theorem hc_b_init : FnScope H_b_init ["self", "lines"] (defScope h_b_init) := sc_ok (by kernel_rfl)
def H_b_len : List Str := ["self"]
theorem hc_b_len : FnScope H_b_len ["self"] (defScope h_b_len) := sc_ok (by kernel_rfl)
def H_b_exchanged : List Str := ["self", "first", "gone", "fresh", "lines", "leads", "spot", "work", "total", "made", "known"]
theorem hc_b_exchanged : FnScope H_b_exchanged ["self", "first", "gone", "fresh"] (defScope h_b_exchanged) := sc_ok (by kernel_rfl)
def H_b_put_in : List Str := ["self", "index", "line", "many"]
theorem hc_b_put_in : FnScope H_b_put_in ["self", "index", "line"] (defScope h_b_put_in) := sc_ok (by kernel_rfl)
def H_b_add : List Str := ["self", "line"]
theorem hc_b_add : FnScope H_b_add ["self", "line"] (defScope h_b_add) := sc_ok (by kernel_rfl)
def H_b_change : List Str := ["self", "index", "line"]
theorem hc_b_change : FnScope H_b_change ["self", "index", "line"] (defScope h_b_change) := sc_ok (by kernel_rfl)
def H_b_withdraw : List Str := ["self", "count", "many"]
theorem hc_b_withdraw : FnScope H_b_withdraw ["self", "count"] (defScope h_b_withdraw) := sc_ok (by kernel_rfl)
def H_h_init : List Str := ["self", "most"]
theorem hc_h_init : FnScope H_h_init ["self", "most"] (defScope h_h_init) := sc_ok (by kernel_rfl)
def H_h_add : List Str := ["self", "text"]
theorem hc_h_add : FnScope H_h_add ["self", "text"] (defScope h_h_add) := sc_ok (by kernel_rfl)
def H_h_newest : List Str := ["self", "count", "text"]
def H_c_init : List Str := ["self", "history"]
theorem hc_c_init : FnScope H_c_init ["self", "history"] (defScope h_c_init) := sc_ok (by kernel_rfl)
def H_c_settled : List Str := ["self", "verdict"]
theorem hc_c_settled : FnScope H_c_settled ["self", "verdict"] (defScope h_c_settled) := sc_ok (by kernel_rfl)
def H_c_feed : List Str := ["self", "line"]
theorem hc_c_feed : FnScope H_c_feed ["self", "line"] (defScope h_c_feed) := sc_ok (by kernel_rfl)
def H_c_change_line : List Str := ["self", "index", "line"]
theorem hc_c_change_line : FnScope H_c_change_line ["self", "index", "line"] (defScope h_c_change_line) := sc_ok (by kernel_rfl)
def H_c_withdraw : List Str := ["self", "count"]
theorem hc_c_withdraw : FnScope H_c_withdraw ["self", "count"] (defScope h_c_withdraw) := sc_ok (by kernel_rfl)
def H_r_init : List Str := ["self", "text"]
theorem hc_r_init : FnScope H_r_init ["self", "text"] (defScope h_r_init) := sc_ok (by kernel_rfl)
def H_b_all_lines : List Str := ["self"]
theorem hc_b_all_lines : FnScope H_b_all_lines ["self"] (defScope h_b_all_lines) := sc_ok (by kernel_rfl)
def H_b_text : List Str := ["self", "line"]
theorem hc_b_text : FnScope H_b_text ["self"] (defScope h_b_text) := sc_ok (by kernel_rfl)
def H_b_verdict : List Str := ["self", "lines", "leads", "spot", "work", "total"]
theorem hc_b_verdict : FnScope H_b_verdict ["self"] (defScope h_b_verdict) := sc_ok (by kernel_rfl)
def H_b_spot : List Str := ["self"]
theorem hc_b_spot : FnScope H_b_spot ["self"] (defScope h_b_spot) := sc_ok (by kernel_rfl)
def H_c_prompt : List Str := ["self"]
theorem hc_c_prompt : FnScope H_c_prompt ["self"] (defScope h_c_prompt) := sc_ok (by kernel_rfl)
def H_c_waiting : List Str := ["self"]
theorem hc_c_waiting : FnScope H_c_waiting ["self"] (defScope h_c_waiting) := sc_ok (by kernel_rfl)
def H_c_spot : List Str := ["self"]
theorem hc_c_spot : FnScope H_c_spot ["self"] (defScope h_c_spot) := sc_ok (by kernel_rfl)
def H_c_entered : List Str := ["self"]
theorem hc_c_entered : FnScope H_c_entered ["self"] (defScope h_c_entered) := sc_ok (by kernel_rfl)
def H_r_verdict : List Str := ["self"]
theorem hc_r_verdict : FnScope H_r_verdict ["self"] (defScope h_r_verdict) := sc_ok (by kernel_rfl)
end Rp
namespace Rp
open PySem PySem.Spec PyProof.Rows L2
/-- what a getter's def is -/
abbrev GK (K : PySem.W.Frag) (d : He.DefD) : Prop := ∃ fd, FunD K d.name d.qual d.params d.body d.scope (d.dvs K) (d.kws K) (gAd K d.at_) fd
structure HW (P : Program) (w : World) (K : PySem.W.Frag) (mg : Str → Option Value) (base : Heap) (T : Cl) : Prop where
  dh : DH P w K mg T
  tat : ∀ c, T.at_ c = T.at_ 0
  B : FF_ P w K mg base (FF 30) T nm 30
  cls : ∀ x ∈ cnames, Cls K (cAd K x)
  mgc : ∀ x ∈ cnames, mg x = some (.ref (cAd K x))
  mk_ : ∀ x ∈ cnames, Mk K (cAd K x) (He.fAd K (x, some "__init__"))
  apart : ∀ x ∈ cnames, cAd K x ≠ T.at_ 0
  noat : ∀ p ∈ flds, NoAttr K (cAd K p.1) p.2
  meth : ∀ p ∈ mths, Meth K (cAd K p.1) p.2 (He.fAd K (p.1, some p.2))
  prop : ∀ p ∈ prps, ∃ pa, PropOf K (cAd K p.1) p.2 pa (gAd K (p.1, some p.2))
  hd : ∀ d ∈ hnl, DK K d
  gd : ∀ d ∈ gnl, GK K d
  free : ∀ x ∈ frees, mg x = none
  glo : ∀ x ∈ gnames, mg x = some (.ref (He.fAd K (x, none)))
  fresh_ : ∃ t, mg "FRESH_PROMPT" = some (.str ">>> " t)
  more_ : ∃ t, mg "MORE_PROMPT" = some (.str "... " t)
  wrong_ : ∃ t, mg "WRONG_PROMPT" = some (.str "!!! " t)
  most_ : ∃ t, mg "MOST_LINES" = some (.int 300 t)
  great_ : ∃ t, mg "GREATEST" = some (.int 100 t)
section
variable {T : Cl}
/-- everything but at fp stays -/
def Kp (fp : List Addr) (H H' : Hp) : Prop := ∀ b o, H b = some o → b ∉ fp → H' b = some o
theorem Kp.refl (fp : List Addr) (H : Hp) : Kp fp H H := fun _ _ e _ => e
theorem Kp.trans {fp : List Addr} {H H1 H2 : Hp} (a : Kp fp H H1) (b : Kp fp H1 H2) : Kp fp H H2 := fun x o e h => b x o (a x o e h) h
theorem Kp.same {fp : List Addr} {H H1 H2 : Hp} (a : Kp fp H H1) (b : Same H1 H2) : Kp fp H H2 := fun x o e h => b x o (a x o e h)
theorem Kp.of {fp : List Addr} {H H1 : Hp} (b : Same H H1) : Kp fp H H1 := fun x o e _ => b x o e
theorem Kp.wk {fp fq : List Addr} {H H1 : Hp} (a : Kp fp H H1) (h : ∀ x ∈ fp, x ∈ fq) : Kp fq H H1 := fun x o e hx => a x o e fun z => hx (h x z)
theorem Kp.upd {fp : List Addr} {H H1 : Hp} {a : Addr} {o : HO} (k : Kp fp H H1) (h : a ∈ fp) : Kp fp H (L2.upd H1 a o) := fun x u e hx => by
  rw [upd_ne (fun z => hx (by rw [z]; exact h))]
  exact k x u e hx
/-- an object that no datum is made of -/
def Alien (T : Cl) : HO → Prop
  | .tup _ => False
  | .ins C _ _ => C ≠ T.at_ 0
  | .frz _ _ => False
  | _ => True
mutual
def noLD : D → Bool
  | .lst _ => false
  | .dic _ _ => false
  | .tup xs => noLDs xs
  | .ins _ xs => noLDs xs
  | _ => true
def noLDs : List D → Bool
  | [] => true
  | d :: ds => noLD d && noLDs ds
end
theorem kp_rd {K : PySem.W.Frag} {fp : List Addr} {H H' : Hp} {a : Addr} {vs : List V} (k : Kp fp H H') (al : ∀ b ∈ fp, ∀ o, H b = some o → Alien T o) (h : SqT K H a vs) : SqT K H' a vs := by
  rcases h with h | h
  · rcases h with h | ⟨od, h⟩
    · exact .inl (.inl (k _ _ h fun z => al _ z _ h))
    · exact .inl (.inr ⟨od, k _ _ h fun z => al _ z _ h⟩)
  · exact .inr h
theorem kp_ins {K : PySem.W.Frag} {fp : List Addr} {H H' : Hp} {a dx : Addr} {c : Nat} {fs : List (Str × V)} (ht : ∀ c, T.at_ c = T.at_ 0) (k : Kp fp H H') (al : ∀ b ∈ fp, ∀ o, H b = some o → Alien T o) (h : H a = some (.ins (T.at_ c) dx fs)) : H' a = some (.ins (T.at_ c) dx fs) :=
  k _ _ h fun z => al _ z _ h (ht c)
section
variable {K : PySem.W.Frag} {fp : List Addr} {H H' : Hp} (ht : ∀ c, T.at_ c = T.at_ 0) (k : Kp fp H H') (al : ∀ b ∈ fp, ∀ o, H b = some o → Alien T o)
include ht k al
mutual
theorem Rep.kp : ∀ {v : V} {d : D}, Rep K T H v d → noLD d = true → Rep K T H' v d
  | _, _, .non, _ => .non
  | _, _, .bl b, _ => .bl b
  | _, _, .int i, _ => .int i
  | _, _, .str s, _ => .str s
  | _, _, .tup h r, n => .tup (kp_rd k al h) (RepL.kp r n)
  | _, _, .lst _ _, n => by cases n
  | _, _, .dic _ _ _, n => by cases n
  | _, _, .ins h q r, n => .ins (kp_ins (K := K) ht k al h) q (RepL.kp r n)
theorem RepL.kp : ∀ {vs : List V} {ds : List D}, RepL K T H vs ds → noLDs ds = true → RepL K T H' vs ds
  | _, _, .nil, _ => .nil
  | _, _, .cons a b, n => .cons (Rep.kp a (by have := Bool.and_eq_true_iff.mp (show (noLD _ && noLDs _) = true from n); exact this.1)) (RepL.kp b (by have := Bool.and_eq_true_iff.mp (show (noLD _ && noLDs _) = true from n); exact this.2))
end
end
end
section
variable {X : Cx} {T : Cl} {x : Str} {f : Nat} {p pos : Pos} {e : Expr} {es : List Expr} {t : TA}
/-- what a pure def's call asks -/
def tPu (K : PySem.W.Frag) (T : Cl) (f : Nat) (t : TA) : TE := fun σ H Q => t σ H fun vs H1 => ∃ ds d, RepL K T H1 vs ds ∧ FF 30 f ds = some d ∧ Got K T H1 d Q
/-- a call of a pure def -/
theorem pe_pu (W : HW X.prog X.w X.K X.mg X.base T) (hr : Room 32 X.A) (hf : nm.fid.lookup x = some f) (hg : Gl X x) (ha : PA X (e :: es) t) (hdb : (x == ("__debug__" : Str)) = false := by decide) (he : (e :: es).all argE = true := by rfl) :
    PE X (.Call (.Name x p) (e :: es) [] pos) (tPu X.K T f t) := by
  obtain ⟨q, h1, h2, h3⟩ := W.B.fn x f hf
  exact pe_callR (E := E0) h3 hr hg h1 h2 pass0 ha hdb he
end
end Rp
namespace Rp
open PySem PySem.Spec PyProof.Rows L2
theorem vOf_ok {u : Value} {v : V} (h : vOf u = some v) : RelV v u := by
  cases u <;> cases h
  · exact (rfl : (Value.none : Value) = .none)
  · exact (rfl : (Value.bool _ : Value) = .bool _)
  · exact ⟨_, rfl⟩
  · exact ⟨_, rfl⟩
  · exact (rfl : (Value.ref _ : Value) = .ref _)
section
variable {K : PySem.W.Frag} {T : Cl}
mutual
theorem repV_ok : ∀ {d : D} {v : V}, repV K d v = true → ∀ H, Rep K T H v d
  | .non, v, h, H => by cases v <;> first | exact .non | cases h
  | .bl b, v, h, H => by
    cases v <;> first | (cases h; done) | skip
    rename_i c
    have e : b = c := of_decide_eq_true h
    rw [e]
    exact .bl c
  | .int i, v, h, H => by
    cases v <;> first | (cases h; done) | skip
    rename_i c
    have e : i = c := of_decide_eq_true h
    rw [e]
    exact .int c
  | .str s, v, h, H => by
    cases v <;> first | (cases h; done) | skip
    rename_i c
    have e : toS s = c := of_decide_eq_true h
    rw [← e]
    exact .str s
  | .tup ds, v, h, H => by
    cases v <;> first | (cases h; done) | skip
    rename_i a
    have h : (match K.lookup a with
      | some ⟨.type c, _, .seq its _, _⟩ => decide (c = "tuple") && (decide (its.size ≤ sizeLine) && repVs K ds its.toList)
      | _ => false) = true := h
    split at h
    · rename_i c dd its n sl e
      obtain ⟨h1, h2⟩ := Bool.and_eq_true_iff.mp h
      obtain ⟨h3, h4⟩ := Bool.and_eq_true_iff.mp h2
      obtain ⟨vs, r, q⟩ := repVs_ok h4
      exact .tup (.inr ⟨_, its, n, e, congrArg Value.type (of_decide_eq_true h1), rfl, of_decide_eq_true h3, r⟩) (q H)
    · cases h
  | .lst _, v, h, _ => by cases v <;> cases h
  | .dic _ _, v, h, _ => by cases v <;> cases h
  | .ins _ _, v, h, _ => by cases v <;> cases h
theorem repVs_ok : ∀ {ds : List D} {us : List Value}, repVs K ds us = true → ∃ vs, Vals vs us ∧ ∀ H, RepL K T H vs ds
  | [], [], _ => ⟨[], .nil, fun _ => .nil⟩
  | [], _ :: _, h => by cases h
  | _ :: _, [], h => by cases h
  | d :: ds, u :: us, h => by
    obtain ⟨h1, h2⟩ := Bool.and_eq_true_iff.mp (show ((match vOf u with
      | some v => repV K d v
      | none => false) && repVs K ds us) = true from h)
    obtain ⟨vs, r, q⟩ := repVs_ok h2
    cases e : vOf u with
    | none => rw [e] at h1; cases h1
    | some v =>
      rw [e] at h1
      exact ⟨v :: vs, .cons (vOf_ok e) r, fun H => .cons (repV_ok h1 H) (q H)⟩
end
end
theorem repAll_ok {K : PySem.W.Frag} {T : Cl} : ∀ {vs : List V} {ds : List D}, repAll K vs ds = true → ∀ H, RepL K T H vs ds
  | [], [], _, _ => .nil
  | [], _ :: _, h, _ => by cases h
  | _ :: _, [], h, _ => by cases h
  | v :: vs, d :: ds, h, H => by
    obtain ⟨h1, h2⟩ := Bool.and_eq_true_iff.mp (show (repV K d v && repAll K vs ds) = true from h)
    exact .cons (repV_ok h1 H) (repAll_ok h2 H)
theorem namB_ok {K : PySem.W.Frag} {T : Cl} {n : Addr} {x : Str} {d : D} (h : namB K n x d = true) : ∃ u v, PySem.W.nsIn K n x = some (some u) ∧ RelV v u ∧ ∀ H, Rep K T H v d := by
  unfold namB at h
  split at h
  · rename_i u e
    cases e2 : vOf u with
    | none => rw [e2] at h; cases h
    | some v =>
      rw [e2] at h
      exact ⟨u, v, e, vOf_ok e2, fun H => repV_ok h H⟩
  · cases h
theorem propB_ok {K : PySem.W.Frag} {p : Str × Str} (h : propB K p = true) : PropOf K (cAd K p.1) p.2 (fP K p) (gAd K (p.1, some p.2)) := by
  obtain ⟨h1, h⟩ := Bool.and_eq_true_iff.mp h
  obtain ⟨h2, h⟩ := Bool.and_eq_true_iff.mp h
  obtain ⟨h3, h4⟩ := Bool.and_eq_true_iff.mp h
  refine ⟨He.eqO_ok h1, He.eqO_ok h2, of_decide_eq_true h3, ?_⟩
  split at h4
  · rename_i g rest e
    refine ⟨rest, ?_⟩
    have eg : gAd K (p.1, some p.2) = g := by
      unfold gAd
      rw [show He.fAd K (p.1, some p.2) = fP K p from rfl, e]
    rw [eg]
    exact e
  · cases h4
theorem gk_of {K : PySem.W.Frag} {d : He.DefD} (e : fnG K d = d.val) (c : okG K d = true) : GK K d := by
  obtain ⟨kp, c⟩ := Bool.and_eq_true_iff.mp c
  unfold fnG at e
  split at c
  · rename_i oc od fd sl q
    rw [q] at e
    obtain ⟨m1, m2, m3, m4, m5, m6, m7, m8, m9, m10, m11, m12, m13, m14, m15⟩ := fd
    have e2 : (some (m1, m2, m3, m4, m5, m6, m7, m15) : He.FnW) = some (d.name, d.qual, d.params, .stmts d.body, d.scope, mainGlobals, [], builtinsNs) := e
    simp only [Option.some.injEq, Prod.mk.injEq] at e2
    obtain ⟨z1, z2, z3, z4, z5, z6, z7, z8⟩ := e2
    subst z1 z2 z3 z4 z5 z6 z7 z8
    obtain ⟨k1, k2⟩ := Bool.and_eq_true_iff.mp c
    obtain ⟨k3, k4⟩ := Bool.and_eq_true_iff.mp k2
    exact ⟨_, ⟨oc, od, m8, m9, m10, m11, m12, m13, m14, sl, rfl, q, k1, He.dflB_ok k3, He.kwdB_ok k4⟩, kp⟩
  · cases c
end Rp
namespace Rp
open PySem PySem.Spec PyProof.Rows L2
def c10 : Ch := ⟨10, Nat.le_of_ble_eq_true rfl⟩
def c33 : Ch := ⟨33, Nat.le_of_ble_eq_true rfl⟩
def c38 : Ch := ⟨38, Nat.le_of_ble_eq_true rfl⟩
def c42 : Ch := ⟨42, Nat.le_of_ble_eq_true rfl⟩
def c47 : Ch := ⟨47, Nat.le_of_ble_eq_true rfl⟩
def c51 : Ch := ⟨51, Nat.le_of_ble_eq_true rfl⟩
def c52 : Ch := ⟨52, Nat.le_of_ble_eq_true rfl⟩
def c53 : Ch := ⟨53, Nat.le_of_ble_eq_true rfl⟩
def c54 : Ch := ⟨54, Nat.le_of_ble_eq_true rfl⟩
def c55 : Ch := ⟨55, Nat.le_of_ble_eq_true rfl⟩
def c56 : Ch := ⟨56, Nat.le_of_ble_eq_true rfl⟩
def c57 : Ch := ⟨57, Nat.le_of_ble_eq_true rfl⟩
def c62 : Ch := ⟨62, Nat.le_of_ble_eq_true rfl⟩
def c63 : Ch := ⟨63, Nat.le_of_ble_eq_true rfl⟩
def c64 : Ch := ⟨64, Nat.le_of_ble_eq_true rfl⟩
def c65 : Ch := ⟨65, Nat.le_of_ble_eq_true rfl⟩
def c66 : Ch := ⟨66, Nat.le_of_ble_eq_true rfl⟩
def c67 : Ch := ⟨67, Nat.le_of_ble_eq_true rfl⟩
def c68 : Ch := ⟨68, Nat.le_of_ble_eq_true rfl⟩
def c69 : Ch := ⟨69, Nat.le_of_ble_eq_true rfl⟩
def c70 : Ch := ⟨70, Nat.le_of_ble_eq_true rfl⟩
def c71 : Ch := ⟨71, Nat.le_of_ble_eq_true rfl⟩
def c72 : Ch := ⟨72, Nat.le_of_ble_eq_true rfl⟩
def c73 : Ch := ⟨73, Nat.le_of_ble_eq_true rfl⟩
def c74 : Ch := ⟨74, Nat.le_of_ble_eq_true rfl⟩
def c75 : Ch := ⟨75, Nat.le_of_ble_eq_true rfl⟩
def c76 : Ch := ⟨76, Nat.le_of_ble_eq_true rfl⟩
def c77 : Ch := ⟨77, Nat.le_of_ble_eq_true rfl⟩
def c78 : Ch := ⟨78, Nat.le_of_ble_eq_true rfl⟩
def c79 : Ch := ⟨79, Nat.le_of_ble_eq_true rfl⟩
def c80 : Ch := ⟨80, Nat.le_of_ble_eq_true rfl⟩
def c81 : Ch := ⟨81, Nat.le_of_ble_eq_true rfl⟩
def c82 : Ch := ⟨82, Nat.le_of_ble_eq_true rfl⟩
def c83 : Ch := ⟨83, Nat.le_of_ble_eq_true rfl⟩
def c84 : Ch := ⟨84, Nat.le_of_ble_eq_true rfl⟩
def c85 : Ch := ⟨85, Nat.le_of_ble_eq_true rfl⟩
def c86 : Ch := ⟨86, Nat.le_of_ble_eq_true rfl⟩
def c87 : Ch := ⟨87, Nat.le_of_ble_eq_true rfl⟩
def c88 : Ch := ⟨88, Nat.le_of_ble_eq_true rfl⟩
def c89 : Ch := ⟨89, Nat.le_of_ble_eq_true rfl⟩
def c90 : Ch := ⟨90, Nat.le_of_ble_eq_true rfl⟩
def c94 : Ch := ⟨94, Nat.le_of_ble_eq_true rfl⟩
def c95 : Ch := ⟨95, Nat.le_of_ble_eq_true rfl⟩
def c96 : Ch := ⟨96, Nat.le_of_ble_eq_true rfl⟩
def c106 : Ch := ⟨106, Nat.le_of_ble_eq_true rfl⟩
def c113 : Ch := ⟨113, Nat.le_of_ble_eq_true rfl⟩
def c118 : Ch := ⟨118, Nat.le_of_ble_eq_true rfl⟩
def c124 : Ch := ⟨124, Nat.le_of_ble_eq_true rfl⟩
def c126 : Ch := ⟨126, Nat.le_of_ble_eq_true rfl⟩
abbrev KC := Ev → Option D
section
variable (G : Gt) (F : Ft)
def kVar (i : Nat) : KC := fun ρ => match ρ.get?Internal i with
  | some (some d) => some d
  | _ => none
def kCst (d : D) : KC := fun _ => some d
def kKget2 (ks : List (List Ch)) (vs : List D) (k : KC) : KC := fun ρ => match k ρ with
  | some (.str x) => lookK x ks vs
  | _ => none
def kTup (es : Ev → Option (List D)) : KC := fun ρ => match es ρ with
  | some ds => match fit ds.length with
    | true => some (.tup ds)
    | false => none
  | none => none
def kLst (es : Ev → Option (List D)) : KC := fun ρ => match es ρ with
  | some ds => match fit ds.length with
    | true => some (.lst ds)
    | false => none
  | none => none
def kBin (o : Op) (a b : KC) : KC := fun ρ => match a ρ with
  | some x => match b ρ with
    | some y => appOp o x y
    | none => none
  | none => none
def kIsN (a : KC) : KC := fun ρ => match a ρ with
  | some .non => some (.bl true)
  | some _ => some (.bl false)
  | none => none
def kNotN (a : KC) : KC := fun ρ => match a ρ with
  | some .non => some (.bl false)
  | some _ => some (.bl true)
  | none => none
def kChain (o1 o2 : Op) (a b c : KC) : KC := fun ρ => match a ρ with
  | some x => match b ρ with
    | some y => match appOp o1 x y with
      | some (.bl true) => match c ρ with
        | some z => appOp o2 y z
        | none => none
      | some (.bl false) => some (.bl false)
      | _ => none
    | none => none
  | none => none
def kAnd (a b : KC) : KC := fun ρ => match a ρ with
  | some (.bl true) => b ρ
  | some (.bl false) => some (.bl false)
  | _ => none
def kOr (a b : KC) : KC := fun ρ => match a ρ with
  | some (.bl true) => some (.bl true)
  | some (.bl false) => b ρ
  | _ => none
def kNot (a : KC) : KC := fun ρ => match a ρ with
  | some (.bl b) => some (.bl (!b))
  | _ => none
def kIte (t a b : KC) : KC := fun ρ => match t ρ with
  | some (.bl true) => a ρ
  | some (.bl false) => b ρ
  | _ => none
def kAttr (a : KC) (i : Nat) : KC := fun ρ => match a ρ with
  | some (.ins 0 fs) => fs.get?Internal i
  | _ => none
def kIx (a b : KC) : KC := fun ρ => match a ρ with
  | some x => match b ρ with
    | some y => ixD x y
    | none => none
  | none => none
def kSlice (a : KC) (lo hi : Ev → Option (Option Int)) : KC := fun ρ => match a ρ with
  | some x => match lo ρ with
    | some l => match hi ρ with
      | some h => sliceD x l h
      | none => none
    | none => none
  | none => none
def kNeg (a : KC) : KC := fun ρ => match a ρ with
  | some (.int i) => some (.int (-i))
  | _ => none
def kCall (f : Nat) (es : Ev → Option (List D)) : KC := fun ρ => match es ρ with
  | some ds => F f ds
  | none => none
def kMeth (f : Nat) (o : KC) (es : Ev → Option (List D)) : KC := fun ρ => match o ρ with
  | some (.ins 0 fs) => match es ρ with
    | some ds => F f (.ins 0 fs :: ds)
    | none => none
  | _ => none
def kF1 (f : Fn1) (a : KC) : KC := fun ρ => match a ρ with
  | some x => app1 f x
  | none => none
def kM1 (m : Mt1) (a b : KC) : KC := fun ρ => match a ρ with
  | some x => match b ρ with
    | some y => appM m x y
    | none => none
  | none => none
def kDget (a k d : KC) : KC := fun ρ => match a ρ with
  | some (.dic ks vs) => match k ρ with
    | some (.str x) => match d ρ with
      | some z => match lookK x ks vs with
        | some r => some r
        | none => some z
      | none => none
    | _ => none
  | _ => none
def kCdic (ks vs : List (List Ch)) : KC := fun _ => some (.dic ks (vs.map .str))
def kItems (a : KC) : KC := fun ρ => match a ρ with
  | some (.dic ks vs) => match fit ks.length with
    | true => some (.lst (dflD ks vs))
    | false => none
  | _ => none
def kDstar (a : KC) (ks vs : List (List Ch)) : KC := fun ρ => match a ρ with
  | some (.dic ks0 vs0) => match fit (ks0.length + ks.length), strsOf vs0, putAllD (ks.zip (vs.map .str)) (ks0, vs0) with
    | true, some _, (x, y) => some (.dic x y)
    | _, _, _ => none
  | _ => none
def kLcomp (i : Nat) (it t e : KC) : KC := fun ρ => match it ρ with
  | some x => match itemsD x with
    | some xs => match fit xs.length with
      | true => (compD (wipeD ρ i) i (fun r => t r) (fun r => e r) xs).map .lst
      | false => none
    | none => none
  | none => none
def kNil : Ev → Option (List D) := fun _ => some []
def kCons (c : KC) (r : Ev → Option (List D)) : Ev → Option (List D) := fun ρ => match c ρ with
  | some d => match r ρ with
    | some ds => some (d :: ds)
    | none => none
  | none => none
def kStar (c : KC) (r : Ev → Option (List D)) : Ev → Option (List D) := fun ρ => match c ρ with
  | some (.tup xs) => match r ρ with
    | some ds => some (xs ++ ds)
    | none => none
  | some (.lst xs) => match r ρ with
    | some ds => some (xs ++ ds)
    | none => none
  | _ => none
def kONone : Ev → Option (Option Int) := fun _ => some none
def kOSome (c : KC) : Ev → Option (Option Int) := fun ρ => match c ρ with
  | some (.int i) => some (some i)
  | _ => none
def kTrue : KC := fun _ => some (.bl true)
abbrev KS := Ev → Option Out
def kSet (i : Nat) (e : KC) : KS := fun ρ => match e ρ with
  | some d => some (.inl (ρ.set i (some d)))
  | none => none
def kSets (is : List Nat) (e : KC) : KS := fun ρ => match e ρ with
  | some (.tup ds) => match setsD is ds ρ with
    | some ρ' => some (.inl ρ')
    | none => none
  | _ => none
def kPar (i j : Nat) (a b : KC) : KS := fun ρ => match a ρ with
  | some x => match b ρ with
    | some y => some (.inl ((ρ.set i (some x)).set j (some y)))
    | none => none
  | none => none
def kIff (t : KC) (a b : KS) : KS := fun ρ => match t ρ with
  | some (.bl true) => a ρ
  | some (.bl false) => b ρ
  | _ => none
def kRet (e : KC) : KS := fun ρ => match e ρ with
  | some d => some (.inr d)
  | none => none
def kWhil (t : KC) (b : KS) : KS := fun ρ => loopD (fun r => t r) (fun r => b r) 1000000 ρ
def kMtch (e : KC) (cs : List Ch → KS) : KS := fun ρ => match e ρ with
  | some (.str x) => cs x ρ
  | _ => none
def kForR (i : Nat) (n : KC) (b : KS) : KS := fun ρ => match n ρ with
  | some (.int k) => if 0 ≤ k ∧ k < 4611686018427387904 then forR i (fun r => b r) k.toNat 0 ρ else none
  | _ => none
def kForE (i j : Nat) (e : KC) (b : KS) : KS := fun ρ => match e ρ with
  | some (.str x) => forE i j (fun r => b r) x 0 ρ
  | _ => none
def kSNil : KS := fun ρ => some (.inl ρ)
def kSCons (s r : KS) : KS := fun ρ => match s ρ with
  | some (.inl ρ') => r ρ'
  | some (.inr d) => some (.inr d)
  | none => none
def kMNil : List Ch → KS := fun _ ρ => some (.inl ρ)
def kMCons (ps : List (List Ch)) (b : KS) (r : List Ch → KS) : List Ch → KS := fun x ρ => match anyS x ps with
  | true => b ρ
  | false => r x ρ
end
end Rp
namespace Rp
open PySem PySem.Spec PyProof.Rows L2
def gk_KEYWORDS : D := (D.tup [(D.str [c97, c110, c100]), (D.str [c98, c114, c101, c97, c107]), (D.str [c100, c101, c102]), (D.str [c101, c108, c105, c102]), (D.str [c101, c108, c115, c101]), (D.str [c101, c120, c99, c101, c112, c116]), (D.str [c102, c105, c110, c97, c108, c108, c121]), (D.str [c102, c111, c114]), (D.str [c105, c102]), (D.str [c105, c110]), (D.str [c110, c111, c116]), (D.str [c111, c114]), (D.str [c112, c97, c115, c115]), (D.str [c114, c101, c116, c117, c114, c110]), (D.str [c116, c114, c121]), (D.str [c119, c104, c105, c108, c101])])
def gk_LETTERS : D := (D.str [c97, c98, c99, c100, c101, c102, c103, c104, c105, c106, c107, c108, c109, c110, c111, c112, c113, c114, c115, c116, c117, c118, c119, c120, c121, c122, c65, c66, c67, c68, c69, c70, c71, c72, c73, c74, c75, c76, c77, c78, c79, c80, c81, c82, c83, c84, c85, c86, c87, c88, c89, c90, c95])
def gk_DIGITS_signs : D := (D.str [c48, c49, c50, c51, c52, c53, c54, c55, c56, c57])
def gk_OTHERS : D := (D.str [c32, c33, c34, c35, c36, c38, c39, c40, c41, c42, c43, c44, c45, c46, c47, c58, c59, c60, c61, c62, c63, c64, c91, c92, c93, c94, c96, c123, c124, c125, c126])
def gk_DIGITS_states : D := (D.str [c48, c49, c50, c51, c52, c53, c54, c55, c56, c57])
def gk_BINARY_WORDS : D := (D.tup [(D.str [c97, c110, c100]), (D.str [c111, c114]), (D.str [c105, c110])])
def gk_HEADERS : D := (D.tup [(D.str [c105, c102]), (D.str [c119, c104, c105, c108, c101]), (D.str [c102, c111, c114]), (D.str [c100, c101, c102]), (D.str [c116, c114, c121])])
def gk_CHAINS : D := (D.tup [(D.str [c116, c97, c114, c103, c101, c116]), (D.str [c99, c104, c97, c105, c110])])
def gk_DONE : D := (D.tup [(D.str [c116, c97, c114, c103, c101, c116]), (D.str [c99, c104, c97, c105, c110]), (D.str [c97, c102, c116, c101, c114]), (D.str [c115, c101, c97, c108, c101, c100]), (D.str [c110, c97, c109, c101, c100])])
def gk_STARTS : D := (D.tup [(D.str [c98, c101, c103, c105, c110]), (D.str [c109, c111, c114, c101]), (D.str [c115, c117, c105, c116, c101])])
def gk_OPERANDS : D := (D.tup [(D.str [c98, c101, c103, c105, c110]), (D.str [c109, c111, c114, c101]), (D.str [c115, c117, c105, c116, c101]), (D.str [c109, c97, c121, c98, c101]), (D.str [c111, c112, c101, c114, c97, c110, c100]), (D.str [c102, c105, c114, c115, c116]), (D.str [c97, c114, c103])])
def gk_LINE_ENDS : D := (D.tup [(D.str [c116, c97, c114, c103, c101, c116]), (D.str [c99, c104, c97, c105, c110]), (D.str [c97, c102, c116, c101, c114]), (D.str [c115, c101, c97, c108, c101, c100]), (D.str [c101, c110, c100]), (D.str [c109, c97, c121, c98, c101]), (D.str [c109, c111, c114, c101]), (D.str [c115, c117, c105, c116, c101])])
def gk_ANY_WORD : D := (D.tup [(D.str [c98, c101, c103, c105, c110]), (D.str [c109, c111, c114, c101]), (D.str [c115, c117, c105, c116, c101]), (D.str [c109, c97, c121, c98, c101]), (D.str [c111, c112, c101, c114, c97, c110, c100]), (D.str [c102, c105, c114, c115, c116]), (D.str [c97, c114, c103]), (D.str [c115, c116, c97, c116, c101, c109, c101, c110, c116]), (D.str [c110, c97, c109, c101]), (D.str [c99, c104, c97, c105, c110, c110, c97, c109, c101]), (D.str [c100, c101, c102, c110, c97, c109, c101]), (D.str [c102, c111, c114, c110, c97, c109, c101]), (D.str [c101, c120, c99, c101, c112, c116, c110, c97, c109, c101]), (D.str [c112, c97, c114, c97, c109])])
def tk_CLAUSES : List (List Ch) × List D := ([[], [c105, c102], [c116, c114, c121], [c101, c120, c99, c101, c112, c116]], [(D.tup []), (D.tup [(D.str [c101, c108, c105, c102]), (D.str [c101, c108, c115, c101])]), (D.tup [(D.str [c101, c120, c99, c101, c112, c116]), (D.str [c102, c105, c110, c97, c108, c108, c121])]), (D.tup [(D.str [c101, c120, c99, c101, c112, c116]), (D.str [c102, c105, c110, c97, c108, c108, c121])])])
def tk_CLOSERS : List (List Ch) × List D := ([[c40], [c99], [c112], [c91], [c105], [c123, c107], [c123, c118], [c102]], [(D.str [c41]), (D.str [c41]), (D.str [c41]), (D.str [c93]), (D.str [c93]), (D.str [c125]), (D.str [c125]), (D.str [c125])])
section
variable (F : Ft)
def m_consists_of : KS := (kSCons (kRet (kAnd (kF1 Fn1.isStr (kVar 0)) (kF1 Fn1.all (kLcomp 2 (kVar 0) kTrue (kBin Op.isin (kVar 2) (kVar 1)))))) kSNil)
def m_is_line : KS := (kSCons (kRet (kCall F 1 (kCons (kVar 0) (kCons (kBin Op.add (kBin Op.add (kCst gk_LETTERS) (kCst gk_DIGITS_signs)) (kCst gk_OTHERS)) kNil)))) kSNil)
def m_is_text : KS := (kSCons (kRet (kCall F 1 (kCons (kVar 0) (kCons (kBin Op.add (kBin Op.add (kBin Op.add (kCst gk_LETTERS) (kCst gk_DIGITS_signs)) (kCst gk_OTHERS)) (kCst (D.str [c10]))) kNil)))) kSNil)
def m_with_clauses : KS := (kSCons (kSets [2, 3, 4, 5] (kIx (kVar 0) (kNeg (kCst (D.int 1))))) (kSCons (kRet (kTup (kStar (kSlice (kVar 0) kONone (kOSome (kNeg (kCst (D.int 1))))) (kCons (kTup (kCons (kVar 2) (kCons (kVar 1) (kCons (kVar 4) (kCons (kVar 5) kNil))))) kNil)))) kSNil))
def m_after_line : KS := (kSCons (kIff (kOr (kBin Op.notin (kAttr (kVar 0) 3) (kCst gk_LINE_ENDS)) (kBin Op.ne (kIx (kAttr (kVar 0) 1) (kCst (D.int 0))) (kCst (D.str [c115, c109, c97, c108, c108])))) (kSCons (kRet (kCst D.non)) kSNil) kSNil) (kSCons (kSets [1, 2, 3, 4, 5] (kAttr (kVar 0) 1)) (kSCons (kIff (kVar 5) (kSCons (kRet (kCall F 0 (kCons (kTup kNil) (kCons (kTup (kCons (kCst (D.str [c100, c111, c110, c101])) kNil)) kNil)))) kSNil) kSNil) (kSCons (kSet 6 (kIte (kBin Op.eq (kAttr (kVar 0) 3) (kCst (D.str [c115, c117, c105, c116, c101]))) (kTup (kCons (kVar 3) (kCons (kVar 4) kNil))) (kTup kNil))) (kSCons (kRet (kCall F 0 (kCons (kCall F 4 (kCons (kAttr (kVar 0) 0) (kCons (kVar 2) kNil))) (kCons (kTup (kCons (kCst (D.str [c115, c116, c97, c114, c116])) (kCons (kCst (D.int 0)) (kCons (kVar 6) kNil)))) kNil)))) kSNil)))))
def m_after_empty_line : KS := (kSCons (kSets [1, 2, 3] (kAttr (kVar 0) 1)) (kSCons (kIff (kBin Op.eq (kAttr (kVar 0) 0) (kTup kNil)) (kSCons (kRet (kCall F 0 kNil)) kSNil) kSNil) (kSCons (kIff (kOr (kBin Op.ne (kVar 3) (kTup kNil)) (kF1 Fn1.any (kLcomp 4 (kAttr (kVar 0) 0) kTrue (kBin Op.eq (kIx (kVar 4) (kCst (D.int 1))) (kCst (D.str [c116, c114, c121])))))) (kSCons (kRet (kCst D.non)) kSNil) kSNil) (kSCons (kRet (kCall F 0 (kCons (kTup kNil) (kCons (kTup (kCons (kCst (D.str [c100, c111, c110, c101])) kNil)) kNil)))) kSNil))))
def m_line_begun : KS := (kSCons (kSets [1, 2, 3] (kAttr (kVar 0) 1)) (kSCons (kIff (kBin Op.eq (kAttr (kVar 0) 0) (kTup kNil)) (kSCons (kRet (kIte (kBin Op.eq (kVar 2) (kCst (D.int 0))) (kCall F 0 (kCons (kTup (kCons (kTup (kCons (kCst (D.int 0)) (kCons (kCst (D.str [])) (kCons (kCst (D.bl false)) (kCons (kCst (D.bl false)) kNil))))) kNil)) (kCons (kTup (kCons (kCst (D.str [c108, c105, c110, c101])) (kCons (kCst (D.str [])) (kCons (kCst (D.bl true)) kNil)))) (kCons (kTup kNil) (kCons (kCst (D.str [c115, c116, c97, c116, c101, c109, c101, c110, c116])) kNil))))) (kCst D.non))) kSNil) kSNil) (kSCons (kIff (kBin Op.ne (kVar 3) (kTup kNil)) (kSCons (kIff (kBin Op.le (kVar 2) (kIx (kIx (kAttr (kVar 0) 0) (kNeg (kCst (D.int 1)))) (kCst (D.int 0)))) (kSCons (kRet (kCst D.non)) kSNil) kSNil) (kSCons (kRet (kCall F 0 (kCons (kTup (kStar (kAttr (kVar 0) 0) (kCons (kTup (kCons (kVar 2) (kCons (kCst (D.str [])) (kStar (kVar 3) kNil)))) kNil))) (kCons (kTup (kCons (kCst (D.str [c108, c105, c110, c101])) (kCons (kCst (D.str [])) (kCons (kCst (D.bl false)) kNil)))) (kCons (kTup kNil) (kCons (kCst (D.str [c115, c116, c97, c116, c101, c109, c101, c110, c116])) kNil)))))) kSNil)) kSNil) (kSCons (kSet 4 (kAttr (kVar 0) 0)) (kSCons (kWhil (kAnd (kBin Op.gt (kIx (kIx (kVar 4) (kNeg (kCst (D.int 1)))) (kCst (D.int 0))) (kVar 2)) (kBin Op.ne (kIx (kIx (kVar 4) (kNeg (kCst (D.int 1)))) (kCst (D.int 1))) (kCst (D.str [c116, c114, c121])))) (kSCons (kSet 4 (kSlice (kVar 4) kONone (kOSome (kNeg (kCst (D.int 1)))))) kSNil)) (kSCons (kSets [5, 6, 7, 8] (kIx (kVar 4) (kNeg (kCst (D.int 1))))) (kSCons (kIff (kBin Op.ne (kVar 5) (kVar 2)) (kSCons (kRet (kCst D.non)) kSNil) kSNil) (kSCons (kSet 9 (kIte (kOr (kBin Op.eq (kVar 5) (kCst (D.int 0))) (kBin Op.eq (kVar 6) (kCst (D.str [c116, c114, c121])))) (kCst (D.str [c99, c108, c97, c117, c115, c101])) (kCst (D.str [c115, c116, c97, c116, c101, c109, c101, c110, c116])))) (kSCons (kRet (kCall F 0 (kCons (kCall F 4 (kCons (kVar 4) (kCons (kCst (D.str [])) kNil))) (kCons (kTup (kCons (kCst (D.str [c108, c105, c110, c101])) (kCons (kVar 6) (kCons (kCst (D.bl false)) kNil)))) (kCons (kTup kNil) (kCons (kVar 9) kNil)))))) kSNil)))))))))
def m_small_begun : KS := (kSCons (kSets [1, 2, 3, 4] (kIx (kAttr (kVar 0) 0) (kNeg (kCst (D.int 1))))) (kSCons (kRet (kCall F 0 (kCons (kAttr (kVar 0) 0) (kCons (kTup (kCons (kCst (D.str [c115, c109, c97, c108, c108])) (kCons (kCst (D.str [])) (kCons (kVar 3) (kCons (kVar 4) (kCons (kIx (kAttr (kVar 0) 1) (kCst (D.int 2))) kNil)))))) (kCons (kTup kNil) (kCons (kCst (D.str [c98, c101, c103, c105, c110])) kNil)))))) kSNil))
def m_header_begun : KS := (kSCons (kSets [2, 3, 4, 5] (kIx (kAttr (kVar 0) 0) (kNeg (kCst (D.int 1))))) (kSCons (kSet 6 (kDget (kCdic [[c105, c102], [c101, c108, c105, c102], [c116, c114, c121], [c101, c120, c99, c101, c112, c116]] [[c105, c102], [c105, c102], [c116, c114, c121], [c101, c120, c99, c101, c112, c116]]) (kVar 1) (kCst (D.str [])))) (kSCons (kSet 7 (kIte (kBin Op.eq (kVar 1) (kCst (D.str [c100, c101, c102]))) (kTup (kCons (kCst (D.bl true)) (kCons (kCst (D.bl false)) kNil))) (kTup (kCons (kVar 4) (kCons (kOr (kVar 5) (kBin Op.isin (kVar 1) (kTup (kCons (kCst (D.str [c119, c104, c105, c108, c101])) (kCons (kCst (D.str [c102, c111, c114])) kNil))))) kNil))))) (kSCons (kSet 8 (kCdic [[c101, c108, c115, c101], [c116, c114, c121], [c102, c105, c110, c97, c108, c108, c121], [c100, c101, c102], [c102, c111, c114]] [[c99, c111, c108, c111, c110], [c99, c111, c108, c111, c110], [c99, c111, c108, c111, c110], [c100, c101, c102, c110, c97, c109, c101], [c102, c111, c114, c110, c97, c109, c101]])) (kSCons (kSet 9 (kIte (kBin Op.eq (kVar 1) (kCst (D.str [c101, c120, c99, c101, c112, c116]))) (kCst (D.str [c101, c120, c99, c101, c112, c116, c110, c97, c109, c101])) (kDget (kVar 8) (kVar 1) (kCst (D.str [c111, c112, c101, c114, c97, c110, c100]))))) (kSCons (kRet (kCall F 0 (kCons (kAttr (kVar 0) 0) (kCons (kTup (kCons (kCst (D.str [c104, c101, c97, c100])) (kCons (kVar 6) (kStar (kVar 7) kNil)))) (kCons (kTup kNil) (kCons (kVar 9) kNil)))))) kSNil))))))
def m_after_word : KS := (kSCons (kSet 2 (kAttr (kVar 0) 3)) (kSCons (kIff (kBin Op.eq (kVar 2) (kCst (D.str [c99, c108, c97, c117, c115, c101]))) (kSCons (kRet (kIte (kBin Op.isin (kVar 1) (kKget2 tk_CLAUSES.1 tk_CLAUSES.2 (kIx (kAttr (kVar 0) 1) (kCst (D.int 1))))) (kCall F 9 (kCons (kVar 0) (kCons (kVar 1) kNil))) (kCst D.non))) kSNil) kSNil) (kSCons (kIff (kBin Op.eq (kVar 2) (kCst (D.str [c115, c116, c97, c116, c101, c109, c101, c110, c116]))) (kSCons (kIff (kOr (kBin Op.isin (kVar 1) (kCst gk_HEADERS)) (kBin Op.isin (kVar 1) (kKget2 tk_CLAUSES.1 tk_CLAUSES.2 (kIx (kAttr (kVar 0) 1) (kCst (D.int 1)))))) (kSCons (kRet (kCall F 9 (kCons (kVar 0) (kCons (kVar 1) kNil)))) kSNil) kSNil) (kSCons (kRet (kCall F 10 (kCons (kCall F 8 (kCons (kVar 0) kNil)) (kCons (kVar 1) kNil)))) kSNil)) kSNil) (kSCons (kIff (kBin Op.isin (kVar 2) (kCst gk_DONE)) (kSCons (kRet (kIte (kBin Op.isin (kVar 1) (kCst gk_BINARY_WORDS)) (kMeth F 57 (kVar 0) (kCons (kCst (D.str [c111, c112, c101, c114, c97, c110, c100])) kNil)) (kCst D.non))) kSNil) kSNil) (kSCons (kIff (kBin Op.eq (kVar 2) (kCst (D.str [c102, c111, c114, c105, c110]))) (kSCons (kRet (kIte (kBin Op.eq (kVar 1) (kCst (D.str [c105, c110]))) (kMeth F 57 (kVar 0) (kCons (kCst (D.str [c111, c112, c101, c114, c97, c110, c100])) kNil)) (kCst D.non))) kSNil) kSNil) (kSCons (kIff (kAnd (kBin Op.isin (kVar 2) (kCst gk_STARTS)) (kBin Op.isin (kVar 1) (kTup (kCons (kCst (D.str [c112, c97, c115, c115])) (kCons (kCst (D.str [c98, c114, c101, c97, c107])) (kCons (kCst (D.str [c114, c101, c116, c117, c114, c110])) kNil)))))) (kSCons (kIff (kBin Op.eq (kVar 1) (kCst (D.str [c114, c101, c116, c117, c114, c110]))) (kSCons (kRet (kIte (kIx (kAttr (kVar 0) 1) (kCst (D.int 2))) (kMeth F 57 (kVar 0) (kCons (kCst (D.str [c109, c97, c121, c98, c101])) kNil)) (kCst D.non))) kSNil) kSNil) (kSCons (kRet (kIte (kOr (kBin Op.eq (kVar 1) (kCst (D.str [c112, c97, c115, c115]))) (kIx (kAttr (kVar 0) 1) (kCst (D.int 3)))) (kMeth F 57 (kVar 0) (kCons (kCst (D.str [c101, c110, c100])) kNil)) (kCst D.non))) kSNil)) kSNil) (kSCons (kIff (kAnd (kBin Op.isin (kVar 2) (kCst gk_OPERANDS)) (kBin Op.eq (kVar 1) (kCst (D.str [c110, c111, c116])))) (kSCons (kRet (kMeth F 57 (kVar 0) (kCons (kCst (D.str [c111, c112, c101, c114, c97, c110, c100])) kNil))) kSNil) kSNil) (kSCons (kIff (kBin Op.isin (kVar 1) (kCst gk_KEYWORDS)) (kSCons (kRet (kCst D.non)) kSNil) kSNil) (kSCons (kIff (kBin Op.isin (kVar 2) (kCst gk_OPERANDS)) (kSCons (kRet (kMeth F 57 (kVar 0) (kCons (kIte (kBin Op.isin (kVar 2) (kCst gk_STARTS)) (kCst (D.str [c116, c97, c114, c103, c101, c116])) (kIte (kBin Op.eq (kVar 2) (kCst (D.str [c97, c114, c103]))) (kCst (D.str [c110, c97, c109, c101, c100])) (kCst (D.str [c97, c102, c116, c101, c114])))) kNil))) kSNil) kSNil) (kSCons (kSet 3 (kCdic [[c110, c97, c109, c101], [c99, c104, c97, c105, c110, c110, c97, c109, c101], [c100, c101, c102, c110, c97, c109, c101], [c102, c111, c114, c110, c97, c109, c101]] [[c97, c102, c116, c101, c114], [c116, c97, c114, c103, c101, c116], [c100, c101, c102, c111, c112, c101, c110], [c102, c111, c114, c105, c110]])) (kSCons (kRet (kMeth F 57 (kVar 0) (kCons (kIx (kDstar (kVar 3) [[c101, c120, c99, c101, c112, c116, c110, c97, c109, c101], [c112, c97, c114, c97, c109]] [[c99, c111, c108, c111, c110], [c112, c97, c114, c97, c109, c100, c111, c110, c101]]) (kVar 2)) kNil))) kSNil)))))))))))
def m_may_assign : KS := (kSCons (kIff (kBin Op.eq (kVar 1) (kCst (D.str [c110, c97, c109, c101, c100]))) (kSCons (kRet (kCst (D.bl true))) kSNil) kSNil) (kSCons (kRet (kAnd (kBin Op.eq (kVar 1) (kCst (D.str [c116, c97, c114, c103, c101, c116]))) (kAnd (kBin Op.eq (kIx (kAttr (kVar 0) 1) (kCst (D.int 0))) (kCst (D.str [c115, c109, c97, c108, c108]))) (kBin Op.eq (kAttr (kVar 0) 2) (kTup kNil))))) kSNil))
def m_after_short : KS := (kSCons (kSets [2, 3, 4, 5] (kAttr (kVar 0) 4)) (kSCons (kIff (kBin Op.eq (kVar 1) (kCst (D.str [c10]))) (kSCons (kRet (kCst D.non)) kSNil) kSNil) (kSCons (kIff (kAnd (kNot (kVar 5)) (kBin Op.eq (kVar 1) (kVar 3))) (kSCons (kRet (kMeth F 57 (kVar 0) (kCons (kVar 4) kNil))) kSNil) kSNil) (kSCons (kRet (kMeth F 58 (kVar 0) (kCons (kCst (D.str [c115, c104, c111, c114, c116])) (kCons (kVar 3) (kCons (kVar 4) (kCons (kAnd (kNot (kVar 5)) (kBin Op.eq (kVar 1) (kCst (D.str [c92])))) kNil)))))) kSNil))))
def m_after_long : KS := (kSCons (kSets [2, 3, 4, 5, 6] (kAttr (kVar 0) 4)) (kSCons (kIff (kOr (kVar 6) (kBin Op.notin (kVar 1) (kTup (kCons (kVar 3) (kCons (kCst (D.str [c92])) kNil))))) (kSCons (kRet (kMeth F 58 (kVar 0) (kCons (kCst (D.str [c108, c111, c110, c103])) (kCons (kVar 3) (kCons (kVar 4) (kCons (kCst (D.int 0)) (kCons (kCst (D.bl false)) kNil))))))) kSNil) kSNil) (kSCons (kIff (kBin Op.eq (kVar 1) (kCst (D.str [c92]))) (kSCons (kRet (kMeth F 58 (kVar 0) (kCons (kCst (D.str [c108, c111, c110, c103])) (kCons (kVar 3) (kCons (kVar 4) (kCons (kCst (D.int 0)) (kCons (kCst (D.bl true)) kNil))))))) kSNil) kSNil) (kSCons (kRet (kIte (kBin Op.eq (kVar 5) (kCst (D.int 2))) (kMeth F 57 (kVar 0) (kCons (kVar 4) kNil)) (kMeth F 58 (kVar 0) (kCons (kCst (D.str [c108, c111, c110, c103])) (kCons (kVar 3) (kCons (kVar 4) (kCons (kBin Op.add (kVar 5) (kCst (D.int 1))) (kCons (kCst (D.bl false)) kNil)))))))) kSNil))))
def m_after_template : KS := (kSCons (kSets [2, 3, 4] (kAttr (kVar 0) 4)) (kSCons (kIff (kOr (kBin Op.eq (kVar 1) (kCst (D.str [c10]))) (kAnd (kBin Op.eq (kVar 1) (kCst (D.str [c125]))) (kNot (kVar 4)))) (kSCons (kRet (kCst D.non)) kSNil) kSNil) (kSCons (kIff (kVar 4) (kSCons (kRet (kMeth F 58 (kVar 0) (kCons (kCst (D.str [c116, c101, c109, c112, c108, c97, c116, c101])) (kCons (kVar 3) (kCons (kCst (D.bl false)) kNil))))) kSNil) kSNil) (kSCons (kIff (kBin Op.eq (kVar 1) (kCst (D.str [c123]))) (kSCons (kRet (kMeth F 59 (kVar 0) (kCons (kCst (D.str [c102])) (kCons (kVar 3) (kCons (kCst (D.str [c111, c112, c101, c114, c97, c110, c100])) kNil))))) kSNil) kSNil) (kSCons (kRet (kIte (kBin Op.eq (kVar 1) (kCst (D.str [c34]))) (kMeth F 57 (kVar 0) (kCons (kVar 3) kNil)) (kMeth F 58 (kVar 0) (kCons (kCst (D.str [c116, c101, c109, c112, c108, c97, c116, c101])) (kCons (kVar 3) (kCons (kBin Op.eq (kVar 1) (kCst (D.str [c92]))) kNil)))))) kSNil)))))
def m_after_operator : KS := (kSCons (kSet 2 (kIx (kAttr (kVar 0) 4) (kCst (D.int 0)))) (kSCons (kIff (kBin Op.eq (kVar 1) (kCst (D.str [c61]))) (kSCons (kRet (kMeth F 57 (kVar 0) (kCons (kCst (D.str [c111, c112, c101, c114, c97, c110, c100])) kNil))) kSNil) kSNil) (kSCons (kIff (kOr (kBin Op.eq (kVar 2) (kCst (D.str [c108, c101, c115, c115]))) (kAnd (kBin Op.eq (kVar 2) (kCst (D.str [c101, c113, c117, c97, c108]))) (kCall F 11 (kCons (kVar 0) (kCons (kAttr (kVar 0) 3) kNil))))) (kSCons (kRet (kCall F 26 (kCons (kMeth F 57 (kVar 0) (kCons (kCst (D.str [c111, c112, c101, c114, c97, c110, c100])) kNil)) (kCons (kVar 1) kNil)))) kSNil) kSNil) (kSCons (kRet (kCst D.non)) kSNil))))
def m_after_word_sign : KS := (kSCons (kSet 2 (kIx (kAttr (kVar 0) 4) (kCst (D.int 1)))) (kSCons (kIff (kOr (kBin Op.isin (kVar 1) (kCst gk_LETTERS)) (kBin Op.isin (kVar 1) (kCst gk_DIGITS_states))) (kSCons (kRet (kIte (kMeth F 63 (kVar 0) (kCons (kBin Op.add (kVar 2) (kVar 1)) kNil)) (kMeth F 58 (kVar 0) (kCons (kCst (D.str [c119, c111, c114, c100])) (kCons (kBin Op.add (kVar 2) (kVar 1)) kNil))) (kCst D.non))) kSNil) kSNil) (kSCons (kSet 3 (kCall F 10 (kCons (kVar 0) (kCons (kVar 2) kNil)))) (kSCons (kRet (kIte (kIsN (kVar 3)) (kCst D.non) (kCall F 26 (kCons (kVar 3) (kCons (kVar 1) kNil))))) kSNil))))
def m_after_number : KS := (kSCons (kIff (kAnd (kBin Op.isin (kVar 1) (kCst gk_DIGITS_states)) (kBin Op.eq (kIx (kAttr (kVar 0) 4) (kCst (D.int 1))) (kCst (D.str [c49])))) (kSCons (kRet (kVar 0)) kSNil) kSNil) (kSCons (kIff (kOr (kBin Op.isin (kVar 1) (kCst gk_LETTERS)) (kBin Op.isin (kVar 1) (kCst gk_DIGITS_states))) (kSCons (kRet (kCst D.non)) kSNil) kSNil) (kSCons (kRet (kCall F 26 (kCons (kMeth F 57 (kVar 0) (kCons (kCst (D.str [c115, c101, c97, c108, c101, c100])) kNil)) (kCons (kVar 1) kNil)))) kSNil)))
def m_after_quote : KS := (kSCons (kSets [2, 3, 4] (kAttr (kVar 0) 4)) (kSCons (kIff (kBin Op.eq (kVar 2) (kCst (D.str [c101, c109, c112, c116, c121]))) (kSCons (kIff (kBin Op.eq (kVar 1) (kVar 3)) (kSCons (kRet (kMeth F 58 (kVar 0) (kCons (kCst (D.str [c108, c111, c110, c103])) (kCons (kVar 3) (kCons (kVar 4) (kCons (kCst (D.int 0)) (kCons (kCst (D.bl false)) kNil))))))) kSNil) kSNil) (kSCons (kRet (kCall F 26 (kCons (kMeth F 57 (kVar 0) (kCons (kVar 4) kNil)) (kCons (kVar 1) kNil)))) kSNil)) kSNil) (kSCons (kIff (kBin Op.eq (kVar 1) (kVar 3)) (kSCons (kRet (kMeth F 58 (kVar 0) (kCons (kCst (D.str [c101, c109, c112, c116, c121])) (kCons (kVar 3) (kCons (kVar 4) kNil))))) kSNil) kSNil) (kSCons (kRet (kCall F 12 (kCons (kMeth F 58 (kVar 0) (kCons (kCst (D.str [c115, c104, c111, c114, c116])) (kCons (kVar 3) (kCons (kVar 4) (kCons (kCst (D.bl false)) kNil))))) (kCons (kVar 1) kNil)))) kSNil))))
def m_after_token : KS := (kSCons (kMtch (kIx (kAttr (kVar 0) 4) (kCst (D.int 0))) (kMCons [[c119, c111, c114, c100]] (kSCons (kRet (kCall F 16 (kCons (kVar 0) (kCons (kVar 1) kNil)))) kSNil) (kMCons [[c110, c117, c109, c98, c101, c114]] (kSCons (kRet (kCall F 17 (kCons (kVar 0) (kCons (kVar 1) kNil)))) kSNil) (kMCons [[c115, c104, c111, c114, c116]] (kSCons (kRet (kCall F 12 (kCons (kVar 0) (kCons (kVar 1) kNil)))) kSNil) (kMCons [[c108, c111, c110, c103]] (kSCons (kRet (kCall F 13 (kCons (kVar 0) (kCons (kVar 1) kNil)))) kSNil) (kMCons [[c116, c101, c109, c112, c108, c97, c116, c101]] (kSCons (kRet (kCall F 14 (kCons (kVar 0) (kCons (kVar 1) kNil)))) kSNil) (kMCons [[c113, c117, c111, c116, c101], [c101, c109, c112, c116, c121]] (kSCons (kRet (kCall F 18 (kCons (kVar 0) (kCons (kVar 1) kNil)))) kSNil) (kMCons [[c108, c101, c115, c115], [c101, c113, c117, c97, c108], [c98, c97, c110, c103]] (kSCons (kRet (kCall F 15 (kCons (kVar 0) (kCons (kVar 1) kNil)))) kSNil) (kMCons [[c100, c111, c108, c108, c97, c114]] (kSCons (kRet (kIte (kBin Op.eq (kVar 1) (kCst (D.str [c34]))) (kMeth F 58 (kVar 0) (kCons (kCst (D.str [c116, c101, c109, c112, c108, c97, c116, c101])) (kCons (kIx (kAttr (kVar 0) 4) (kCst (D.int 1))) (kCons (kCst (D.bl false)) kNil)))) (kCst D.non))) kSNil) (kMCons [[c106, c111, c105, c110]] (kSCons (kRet (kIte (kBin Op.eq (kVar 1) (kCst (D.str [c10]))) (kMeth F 57 (kVar 0) (kCons (kAttr (kVar 0) 3) kNil)) (kCst D.non))) kSNil) kMNil)))))))))) (kSCons (kRet (kIte (kBin Op.eq (kVar 1) (kCst (D.str [c10]))) (kCall F 26 (kCons (kMeth F 57 (kVar 0) (kCons (kAttr (kVar 0) 3) kNil)) (kCons (kVar 1) kNil))) (kVar 0))) kSNil))
def m_after_operand_sign : KS := (kSCons (kSet 2 (kAttr (kVar 0) 3)) (kSCons (kSet 3 (kIte (kBin Op.isin (kVar 2) (kCst gk_STARTS)) (kCst (D.str [c99, c104, c97, c105, c110])) (kCst (D.str [c97, c102, c116, c101, c114])))) (kSCons (kIff (kBin Op.isin (kVar 1) (kCst gk_DIGITS_states)) (kSCons (kRet (kMeth F 58 (kVar 0) (kCons (kCst (D.str [c110, c117, c109, c98, c101, c114])) (kCons (kIte (kBin Op.eq (kVar 1) (kCst (D.str [c48]))) (kCst (D.str [c48])) (kCst (D.str [c49]))) kNil)))) kSNil) kSNil) (kSCons (kIff (kBin Op.isin (kVar 1) (kCst (D.str [c39, c34]))) (kSCons (kRet (kMeth F 57 (kVar 0) (kCons (kCst (D.str [])) (kCons (kTup (kCons (kCst (D.str [c113, c117, c111, c116, c101])) (kCons (kVar 1) (kCons (kVar 3) kNil)))) kNil)))) kSNil) kSNil) (kSCons (kIff (kBin Op.eq (kVar 1) (kCst (D.str [c36]))) (kSCons (kRet (kMeth F 57 (kVar 0) (kCons (kCst (D.str [])) (kCons (kTup (kCons (kCst (D.str [c100, c111, c108, c108, c97, c114])) (kCons (kVar 3) kNil))) kNil)))) kSNil) kSNil) (kSCons (kIff (kBin Op.eq (kVar 1) (kCst (D.str [c45]))) (kSCons (kRet (kMeth F 57 (kVar 0) (kCons (kCst (D.str [c111, c112, c101, c114, c97, c110, c100])) kNil))) kSNil) kSNil) (kSCons (kIff (kBin Op.isin (kVar 1) (kCst (D.str [c40, c91, c123]))) (kSCons (kRet (kMeth F 59 (kVar 0) (kCons (kIte (kBin Op.eq (kVar 1) (kCst (D.str [c123]))) (kCst (D.str [c123, c107])) (kVar 1)) (kCons (kVar 3) (kCons (kCst (D.str [c102, c105, c114, c115, c116])) kNil))))) kSNil) kSNil) (kSCons (kIff (kAnd (kBin Op.isin (kVar 2) (kTup (kCons (kCst (D.str [c102, c105, c114, c115, c116])) (kCons (kCst (D.str [c97, c114, c103])) kNil)))) (kBin Op.eq (kVar 1) (kKget2 tk_CLOSERS.1 tk_CLOSERS.2 (kMeth F 62 (kVar 0) kNil)))) (kSCons (kRet (kMeth F 61 (kVar 0) kNil)) kSNil) kSNil) (kSCons (kRet (kIte (kAnd (kBin Op.eq (kVar 2) (kCst (D.str [c109, c97, c121, c98, c101]))) (kBin Op.eq (kVar 1) (kCst (D.str [c59])))) (kMeth F 57 (kVar 0) (kCons (kCst (D.str [c109, c111, c114, c101])) kNil)) (kCst D.non))) kSNil)))))))))
def m_after_comma : KS := (kSCons (kMtch (kMeth F 62 (kVar 0) kNil) (kMCons [[c40], [c91]] (kSCons (kRet (kMeth F 57 (kVar 0) (kCons (kCst (D.str [c102, c105, c114, c115, c116])) kNil))) kSNil) (kMCons [[c99]] (kSCons (kRet (kMeth F 57 (kVar 0) (kCons (kCst (D.str [c97, c114, c103])) kNil))) kSNil) (kMCons [[c123, c118]] (kSCons (kRet (kMeth F 60 (kVar 0) (kCons (kCst (D.str [c123, c107])) (kCons (kCst (D.str [c102, c105, c114, c115, c116])) kNil)))) kSNil) (kMCons [[c112]] (kSCons (kRet (kMeth F 57 (kVar 0) (kCons (kCst (D.str [c112, c97, c114, c97, c109])) kNil))) kSNil) kMNil))))) (kSCons (kRet (kCst D.non)) kSNil))
def m_after_colon : KS := (kSCons (kIff (kBin Op.eq (kMeth F 62 (kVar 0) kNil) (kCst (D.str [c123, c107]))) (kSCons (kRet (kMeth F 60 (kVar 0) (kCons (kCst (D.str [c123, c118])) (kCons (kCst (D.str [c111, c112, c101, c114, c97, c110, c100])) kNil)))) kSNil) kSNil) (kSCons (kIff (kOr (kBin Op.ne (kAttr (kVar 0) 2) (kTup kNil)) (kBin Op.ne (kIx (kAttr (kVar 0) 1) (kCst (D.int 0))) (kCst (D.str [c104, c101, c97, c100])))) (kSCons (kRet (kCst D.non)) kSNil) kSNil) (kSCons (kSets [1, 2, 3, 4] (kAttr (kVar 0) 1)) (kSCons (kRet (kCall F 0 (kCons (kAttr (kVar 0) 0) (kCons (kTup (kCons (kCst (D.str [c115, c109, c97, c108, c108])) (kCons (kVar 2) (kCons (kVar 3) (kCons (kVar 4) (kCons (kCst (D.bl false)) kNil)))))) (kCons (kTup kNil) (kCons (kCst (D.str [c115, c117, c105, c116, c101])) kNil)))))) kSNil))))
def m_after_done_sign : KS := (kSCons (kPar 2 3 (kAttr (kVar 0) 3) (kMeth F 62 (kVar 0) kNil)) (kSCons (kIff (kBin Op.isin (kVar 1) (kCst (D.str [c43, c45, c42, c47]))) (kSCons (kRet (kMeth F 57 (kVar 0) (kCons (kCst (D.str [c111, c112, c101, c114, c97, c110, c100])) kNil))) kSNil) kSNil) (kSCons (kIff (kBin Op.isin (kVar 1) (kCst (D.str [c60, c62]))) (kSCons (kRet (kMeth F 58 (kVar 0) (kCons (kCst (D.str [c108, c101, c115, c115])) kNil))) kSNil) kSNil) (kSCons (kIff (kBin Op.isin (kVar 1) (kCst (D.str [c61, c33]))) (kSCons (kRet (kMeth F 58 (kVar 0) (kCons (kIte (kBin Op.eq (kVar 1) (kCst (D.str [c61]))) (kCst (D.str [c101, c113, c117, c97, c108])) (kCst (D.str [c98, c97, c110, c103]))) kNil))) kSNil) kSNil) (kSCons (kIff (kAnd (kBin Op.ne (kVar 2) (kCst (D.str [c115, c101, c97, c108, c101, c100]))) (kBin Op.isin (kVar 1) (kCst (D.str [c46, c40, c91])))) (kSCons (kIff (kBin Op.eq (kVar 1) (kCst (D.str [c46]))) (kSCons (kRet (kMeth F 57 (kVar 0) (kCons (kIte (kBin Op.isin (kVar 2) (kCst gk_CHAINS)) (kCst (D.str [c99, c104, c97, c105, c110, c110, c97, c109, c101])) (kCst (D.str [c110, c97, c109, c101]))) kNil))) kSNil) kSNil) (kSCons (kIff (kBin Op.eq (kVar 1) (kCst (D.str [c40]))) (kSCons (kRet (kMeth F 59 (kVar 0) (kCons (kCst (D.str [c99])) (kCons (kIte (kBin Op.isin (kVar 2) (kCst gk_CHAINS)) (kCst (D.str [c99, c104, c97, c105, c110])) (kCst (D.str [c97, c102, c116, c101, c114]))) (kCons (kCst (D.str [c97, c114, c103])) kNil))))) kSNil) kSNil) (kSCons (kRet (kMeth F 59 (kVar 0) (kCons (kCst (D.str [c105])) (kCons (kIte (kBin Op.isin (kVar 2) (kCst gk_CHAINS)) (kCst (D.str [c116, c97, c114, c103, c101, c116])) (kCst (D.str [c97, c102, c116, c101, c114]))) (kCons (kCst (D.str [c111, c112, c101, c114, c97, c110, c100])) kNil))))) kSNil))) kSNil) (kSCons (kIff (kBin Op.eq (kVar 1) (kCst (D.str [c44]))) (kSCons (kRet (kCall F 21 (kCons (kVar 0) kNil))) kSNil) kSNil) (kSCons (kIff (kBin Op.eq (kVar 1) (kCst (D.str [c58]))) (kSCons (kRet (kCall F 22 (kCons (kVar 0) kNil))) kSNil) kSNil) (kSCons (kIff (kBin Op.eq (kVar 1) (kCst (D.str [c59]))) (kSCons (kRet (kIte (kAnd (kBin Op.eq (kAttr (kVar 0) 2) (kTup kNil)) (kBin Op.eq (kIx (kAttr (kVar 0) 1) (kCst (D.int 0))) (kCst (D.str [c115, c109, c97, c108, c108])))) (kMeth F 57 (kVar 0) (kCons (kCst (D.str [c109, c111, c114, c101])) kNil)) (kCst D.non))) kSNil) kSNil) (kSCons (kRet (kIte (kAnd (kBin Op.notin (kVar 3) (kTup (kCons (kCst (D.str [])) (kCons (kCst (D.str [c123, c107])) (kCons (kCst (D.str [c112])) kNil))))) (kBin Op.eq (kVar 1) (kKget2 tk_CLOSERS.1 tk_CLOSERS.2 (kVar 3)))) (kMeth F 61 (kVar 0) kNil) (kCst D.non))) kSNil)))))))))
def m_after_code_sign : KS := (kSCons (kSet 2 (kAttr (kVar 0) 3)) (kSCons (kIff (kBin Op.isin (kVar 1) (kCst gk_LETTERS)) (kSCons (kRet (kIte (kMeth F 63 (kVar 0) (kCons (kVar 1) kNil)) (kMeth F 58 (kVar 0) (kCons (kCst (D.str [c119, c111, c114, c100])) (kCons (kVar 1) kNil))) (kCst D.non))) kSNil) kSNil) (kSCons (kIff (kBin Op.eq (kVar 2) (kCst (D.str [c115, c116, c97, c116, c101, c109, c101, c110, c116]))) (kSCons (kRet (kCall F 24 (kCons (kCall F 8 (kCons (kVar 0) kNil)) (kCons (kVar 1) kNil)))) kSNil) kSNil) (kSCons (kIff (kBin Op.isin (kVar 2) (kCst gk_OPERANDS)) (kSCons (kRet (kCall F 20 (kCons (kVar 0) (kCons (kVar 1) kNil)))) kSNil) kSNil) (kSCons (kIff (kBin Op.isin (kVar 2) (kCst gk_DONE)) (kSCons (kRet (kCall F 23 (kCons (kVar 0) (kCons (kVar 1) kNil)))) kSNil) kSNil) (kSCons (kIff (kAnd (kBin Op.eq (kVar 2) (kCst (D.str [c101, c110, c100]))) (kBin Op.eq (kVar 1) (kCst (D.str [c59])))) (kSCons (kRet (kMeth F 57 (kVar 0) (kCons (kCst (D.str [c109, c111, c114, c101])) kNil))) kSNil) kSNil) (kSCons (kIff (kAnd (kBin Op.isin (kVar 2) (kTup (kCons (kCst (D.str [c99, c111, c108, c111, c110])) (kCons (kCst (D.str [c101, c120, c99, c101, c112, c116, c110, c97, c109, c101])) kNil)))) (kBin Op.eq (kVar 1) (kCst (D.str [c58])))) (kSCons (kRet (kCall F 22 (kCons (kVar 0) kNil))) kSNil) kSNil) (kSCons (kIff (kAnd (kBin Op.eq (kVar 2) (kCst (D.str [c100, c101, c102, c111, c112, c101, c110]))) (kBin Op.eq (kVar 1) (kCst (D.str [c40])))) (kSCons (kRet (kMeth F 59 (kVar 0) (kCons (kCst (D.str [c112])) (kCons (kCst (D.str [c99, c111, c108, c111, c110])) (kCons (kCst (D.str [c112, c97, c114, c97, c109])) kNil))))) kSNil) kSNil) (kSCons (kIff (kAnd (kBin Op.isin (kVar 2) (kTup (kCons (kCst (D.str [c112, c97, c114, c97, c109])) (kCons (kCst (D.str [c112, c97, c114, c97, c109, c100, c111, c110, c101])) kNil)))) (kBin Op.eq (kVar 1) (kCst (D.str [c41])))) (kSCons (kRet (kMeth F 61 (kVar 0) kNil)) kSNil) kSNil) (kSCons (kRet (kIte (kAnd (kBin Op.eq (kVar 2) (kCst (D.str [c112, c97, c114, c97, c109, c100, c111, c110, c101]))) (kBin Op.eq (kVar 1) (kCst (D.str [c44])))) (kCall F 21 (kCons (kVar 0) kNil)) (kCst D.non))) kSNil))))))))))
def m_after_start_sign : KS := (kSCons (kSets [2, 3, 4] (kAttr (kVar 0) 1)) (kSCons (kIff (kBin Op.eq (kVar 1) (kCst (D.str [c32]))) (kSCons (kRet (kCall F 0 (kCons (kAttr (kVar 0) 0) (kCons (kTup (kCons (kCst (D.str [c115, c116, c97, c114, c116])) (kCons (kBin Op.add (kVar 3) (kCst (D.int 1))) (kCons (kVar 4) kNil)))) kNil)))) kSNil) kSNil) (kSCons (kIff (kBin Op.eq (kVar 1) (kCst (D.str [c35]))) (kSCons (kRet (kMeth F 58 (kVar 0) (kCons (kCst (D.str [c99, c111, c109, c109, c101, c110, c116])) kNil))) kSNil) kSNil) (kSCons (kIff (kBin Op.eq (kVar 1) (kCst (D.str [c10]))) (kSCons (kRet (kCall F 6 (kCons (kVar 0) kNil))) kSNil) kSNil) (kSCons (kSet 5 (kCall F 7 (kCons (kVar 0) kNil))) (kSCons (kRet (kIte (kOr (kIsN (kVar 5)) (kBin Op.eq (kVar 1) (kCst (D.str [c92])))) (kCst D.non) (kCall F 24 (kCons (kVar 5) (kCons (kVar 1) kNil))))) kSNil))))))
def m_after_plain : KS := (kSCons (kIff (kBin Op.eq (kIx (kAttr (kVar 0) 1) (kCst (D.int 0))) (kCst (D.str [c100, c111, c110, c101]))) (kSCons (kRet (kCst D.non)) kSNil) kSNil) (kSCons (kIff (kBin Op.eq (kIx (kAttr (kVar 0) 1) (kCst (D.int 0))) (kCst (D.str [c115, c116, c97, c114, c116]))) (kSCons (kRet (kCall F 25 (kCons (kVar 0) (kCons (kVar 1) kNil)))) kSNil) kSNil) (kSCons (kIff (kOr (kBin Op.eq (kVar 1) (kCst (D.str [c32]))) (kAnd (kBin Op.eq (kVar 1) (kCst (D.str [c10]))) (kBin Op.ne (kAttr (kVar 0) 2) (kTup kNil)))) (kSCons (kRet (kVar 0)) kSNil) kSNil) (kSCons (kIff (kBin Op.eq (kVar 1) (kCst (D.str [c92]))) (kSCons (kRet (kMeth F 58 (kVar 0) (kCons (kCst (D.str [c106, c111, c105, c110])) kNil))) kSNil) kSNil) (kSCons (kIff (kBin Op.eq (kVar 1) (kCst (D.str [c10]))) (kSCons (kRet (kCall F 5 (kCons (kVar 0) kNil))) kSNil) kSNil) (kSCons (kIff (kBin Op.eq (kVar 1) (kCst (D.str [c35]))) (kSCons (kRet (kIte (kOr (kBin Op.ne (kAttr (kVar 0) 2) (kTup kNil)) (kNotN (kCall F 5 (kCons (kVar 0) kNil)))) (kMeth F 58 (kVar 0) (kCons (kCst (D.str [c99, c111, c109, c109, c101, c110, c116])) kNil)) (kCst D.non))) kSNil) kSNil) (kSCons (kRet (kCall F 24 (kCons (kVar 0) (kCons (kVar 1) kNil)))) kSNil)))))))
def m_next_state : KS := (kSCons (kIff (kBin Op.eq (kAttr (kVar 0) 4) (kTup kNil)) (kSCons (kRet (kCall F 26 (kCons (kVar 0) (kCons (kVar 1) kNil)))) kSNil) kSNil) (kSCons (kIff (kAnd (kBin Op.eq (kAttr (kVar 0) 4) (kTup (kCons (kCst (D.str [c99, c111, c109, c109, c101, c110, c116])) kNil))) (kAnd (kBin Op.eq (kIx (kAttr (kVar 0) 1) (kCst (D.int 0))) (kCst (D.str [c115, c116, c97, c114, c116]))) (kBin Op.eq (kVar 1) (kCst (D.str [c10]))))) (kSCons (kRet (kCall F 0 (kCons (kAttr (kVar 0) 0) (kCons (kTup (kCons (kCst (D.str [c115, c116, c97, c114, c116])) (kCons (kCst (D.int 0)) (kCons (kIx (kAttr (kVar 0) 1) (kCst (D.int 2))) kNil)))) kNil)))) kSNil) kSNil) (kSCons (kRet (kCall F 19 (kCons (kVar 0) (kCons (kVar 1) kNil)))) kSNil)))
def m_state_behind : KS := (kSCons (kForE 2 3 (kVar 1) (kSCons (kSet 4 (kCall F 27 (kCons (kVar 0) (kCons (kVar 3) kNil)))) (kSCons (kIff (kIsN (kVar 4)) (kSCons (kRet (kTup (kCons (kCst D.non) (kCons (kVar 2) kNil)))) kSNil) kSNil) (kSCons (kSet 0 (kVar 4)) kSNil)))) (kSCons (kRet (kTup (kCons (kVar 0) (kCons (kF1 Fn1.len (kVar 1)) kNil)))) kSNil))
def m_state_of : KS := (kSCons (kRet (kCall F 28 (kCons (kCall F 0 kNil) (kCons (kVar 0) kNil)))) kSNil)
def m_is_entry_state : KS := (kSCons (kRet (kBin Op.eq (kIx (kAttr (kVar 0) 1) (kCst (D.int 0))) (kCst (D.str [c100, c111, c110, c101])))) kSNil)
def m_state_verdict : KS := (kSCons (kIff (kIsN (kVar 0)) (kSCons (kRet (kCst (D.str [c119, c114, c111, c110, c103]))) kSNil) kSNil) (kSCons (kIff (kCall F 30 (kCons (kVar 0) kNil)) (kSCons (kRet (kCst (D.str [c99, c111, c109, c112, c108, c101, c116, c101]))) kSNil) kSNil) (kSCons (kRet (kIte (kBin Op.eq (kAttr (kVar 0) 0) (kTup kNil)) (kCst (D.str [c101, c109, c112, c116, c121])) (kCst (D.str [c105, c110, c99, c111, c109, c112, c108, c101, c116, c101])))) kSNil)))
def m_is_index : KS := (kSCons (kRet (kAnd (kF1 Fn1.isInt (kVar 0)) (kAnd (kNot (kF1 Fn1.isBool (kVar 0))) (kChain Op.le Op.lt (kCst (D.int 0)) (kVar 0) (kVar 1))))) kSNil)
def m_is_entry : KS := (kSCons (kIff (kNot (kCall F 3 (kCons (kVar 0) kNil))) (kSCons (kRet (kCst (D.bl false))) kSNil) kSNil) (kSCons (kSet 1 (kIx (kCall F 29 (kCons (kVar 0) kNil)) (kCst (D.int 0)))) (kSCons (kRet (kAnd (kNotN (kVar 1)) (kCall F 30 (kCons (kVar 1) kNil)))) kSNil)))
def m_is_count : KS := (kSCons (kRet (kAnd (kF1 Fn1.isInt (kVar 0)) (kAnd (kNot (kF1 Fn1.isBool (kVar 0))) (kBin Op.ge (kVar 0) (kVar 1))))) kSNil)
def m__law_mixed : KS := (kSCons (kSet 2 (kBin Op.mod (kBin Op.add (kBin Op.add (kBin Op.add (kBin Op.mod (kVar 0) (kCst (D.int 1000000007))) (kBin Op.mul (kBin Op.mul (kCst (D.int 7919)) (kVar 1)) (kVar 1))) (kBin Op.mul (kCst (D.int 31)) (kVar 1))) (kCst (D.int 7))) (kCst (D.int 2147483647)))) (kSCons (kSet 2 (kBin Op.mod (kBin Op.mul (kBin Op.mod (kBin Op.mul (kVar 2) (kVar 2)) (kCst (D.int 2147483647))) (kVar 2)) (kCst (D.int 2147483629)))) (kSCons (kRet (kBin Op.fdv (kBin Op.mod (kBin Op.mul (kVar 2) (kBin Op.add (kCst (D.int 69621)) (kBin Op.mul (kCst (D.int 2)) (kBin Op.mod (kVar 1) (kCst (D.int 1000)))))) (kCst (D.int 2147483647))) (kCst (D.int 7)))) kSNil)))
def m__law_primary_end : KS := (kSCons (kIff (kBin Op.isin (kVar 0) (kTup (kCons (kCst (D.str [c115, c109, c97, c108, c108])) (kCons (kCst (D.str [c109, c111, c114, c101])) (kCons (kCst (D.str [c115, c117, c105, c116, c101])) kNil))))) (kSCons (kRet (kIte (kBin Op.eq (kVar 1) (kCst (D.str [c110, c97, c109, c101]))) (kCst (D.str [c116, c97, c114, c103, c101, c116])) (kCst (D.str [c99, c104, c97, c105, c110])))) kSNil) kSNil) (kSCons (kRet (kIte (kAnd (kBin Op.eq (kVar 0) (kCst (D.str [c97, c114, c103, c117, c109, c101, c110, c116]))) (kBin Op.eq (kVar 1) (kCst (D.str [c110, c97, c109, c101])))) (kCst (D.str [c110, c97, c109, c101, c100])) (kCst (D.str [c100, c111, c110, c101])))) kSNil))
def m__law_operand : KS := (kSCons (kSets [2, 3, 4, 5] (kVar 0)) (kSCons (kIff (kBin Op.isin (kVar 1) (kTup (kCons (kCst (D.str [c110, c97, c109, c101])) (kCons (kCst (D.str [c116, c101, c120, c116])) kNil)))) (kSCons (kRet (kTup (kCons (kVar 2) (kCons (kVar 3) (kCons (kVar 4) (kCons (kCall F 36 (kCons (kVar 5) (kCons (kVar 1) kNil))) kNil)))))) kSNil) kSNil) (kSCons (kIff (kBin Op.eq (kVar 1) (kCst (D.str [c110, c117, c109, c98, c101, c114]))) (kSCons (kRet (kTup (kCons (kVar 2) (kCons (kVar 3) (kCons (kVar 4) (kCons (kCst (D.str [c115, c101, c97, c108, c101, c100])) kNil)))))) kSNil) kSNil) (kSCons (kIff (kBin Op.isin (kVar 1) (kTup (kCons (kCst (D.str [c45])) (kCons (kCst (D.str [c110, c111, c116])) kNil)))) (kSCons (kRet (kTup (kCons (kVar 2) (kCons (kVar 3) (kCons (kVar 4) (kCons (kCst (D.str [c111, c112, c101, c114, c97, c110, c100])) kNil)))))) kSNil) kSNil) (kSCons (kIff (kBin Op.isin (kVar 1) (kTup (kCons (kCst (D.str [c40])) (kCons (kCst (D.str [c91])) (kCons (kCst (D.str [c123])) kNil))))) (kSCons (kSet 6 (kIx (kCdic [[c40], [c91], [c123]] [[c103, c114, c111, c117, c112], [c108, c105, c115, c116], [c107, c101, c121]]) (kVar 1))) (kSCons (kRet (kTup (kCons (kVar 2) (kCons (kVar 3) (kCons (kBin Op.add (kVar 4) (kTup (kCons (kTup (kCons (kVar 6) (kCons (kCall F 36 (kCons (kVar 5) (kCons (kCst (D.str [c116, c101, c120, c116])) kNil))) kNil))) kNil))) (kCons (kCst (D.str [c99, c108, c111, c115, c101])) kNil)))))) kSNil)) kSNil) (kSCons (kIff (kAnd (kBin Op.isin (kVar 5) (kTup (kCons (kCst (D.str [c99, c108, c111, c115, c101])) (kCons (kCst (D.str [c97, c114, c103, c117, c109, c101, c110, c116])) kNil)))) (kBin Op.eq (kCall F 38 (kCons (kIx (kIx (kVar 4) (kNeg (kCst (D.int 1)))) (kCst (D.int 0))) kNil)) (kVar 1))) (kSCons (kRet (kTup (kCons (kVar 2) (kCons (kVar 3) (kCons (kSlice (kVar 4) kONone (kOSome (kNeg (kCst (D.int 1))))) (kCons (kIx (kIx (kVar 4) (kNeg (kCst (D.int 1)))) (kCst (D.int 1))) kNil)))))) kSNil) kSNil) (kSCons (kRet (kIte (kAnd (kBin Op.eq (kVar 5) (kCst (D.str [c118, c97, c108, c117, c101]))) (kBin Op.eq (kVar 1) (kCst (D.str [c59])))) (kTup (kCons (kVar 2) (kCons (kVar 3) (kCons (kVar 4) (kCons (kCst (D.str [c109, c111, c114, c101])) kNil))))) (kCst D.non))) kSNil)))))))
def m__law_end_of : KS := (kSCons (kSet 1 (kCdic [[c103, c114, c111, c117, c112], [c99, c97, c108, c108], [c110, c97, c109, c101, c115], [c108, c105, c115, c116], [c105, c110, c100, c101, c120], [c107, c101, c121], [c105, c116, c101, c109]] [[c41], [c41], [c41], [c93], [c93], [c125], [c125]])) (kSCons (kRet (kDget (kVar 1) (kVar 0) (kCst (D.str [])))) kSNil))
def m__law_behind : KS := (kSCons (kSets [2, 3, 4, 5] (kVar 0)) (kSCons (kPar 6 7 (kIte (kBin Op.ne (kVar 4) (kTup kNil)) (kIx (kIx (kVar 4) (kNeg (kCst (D.int 1)))) (kCst (D.int 0))) (kCst (D.str []))) (kBin Op.isin (kVar 5) (kTup (kCons (kCst (D.str [c116, c97, c114, c103, c101, c116])) (kCons (kCst (D.str [c99, c104, c97, c105, c110])) kNil))))) (kSCons (kIff (kBin Op.isin (kVar 1) (kTup (kCons (kCst (D.str [c111, c112])) (kCons (kCst (D.str [c45])) (kCons (kCst (D.str [c61, c61])) (kCons (kCst (D.str [c97, c110, c100])) (kCons (kCst (D.str [c111, c114])) (kCons (kCst (D.str [c105, c110])) kNil)))))))) (kSCons (kRet (kTup (kCons (kVar 2) (kCons (kVar 3) (kCons (kVar 4) (kCons (kCst (D.str [c111, c112, c101, c114, c97, c110, c100])) kNil)))))) kSNil) kSNil) (kSCons (kIff (kBin Op.eq (kVar 1) (kCst (D.str [c61]))) (kSCons (kSet 8 (kOr (kBin Op.eq (kVar 5) (kCst (D.str [c110, c97, c109, c101, c100]))) (kAnd (kBin Op.eq (kVar 5) (kCst (D.str [c116, c97, c114, c103, c101, c116]))) (kAnd (kBin Op.eq (kVar 4) (kTup kNil)) (kBin Op.eq (kIx (kVar 3) (kCst (D.int 0))) (kCst (D.str [c115, c109, c97, c108, c108]))))))) (kSCons (kRet (kIte (kVar 8) (kTup (kCons (kVar 2) (kCons (kVar 3) (kCons (kVar 4) (kCons (kCst (D.str [c111, c112, c101, c114, c97, c110, c100])) kNil))))) (kCst D.non))) kSNil)) kSNil) (kSCons (kIff (kAnd (kBin Op.isin (kVar 1) (kTup (kCons (kCst (D.str [c46])) (kCons (kCst (D.str [c40])) (kCons (kCst (D.str [c91])) kNil))))) (kBin Op.ne (kVar 5) (kCst (D.str [c115, c101, c97, c108, c101, c100])))) (kSCons (kIff (kBin Op.eq (kVar 1) (kCst (D.str [c46]))) (kSCons (kRet (kTup (kCons (kVar 2) (kCons (kVar 3) (kCons (kVar 4) (kCons (kIte (kVar 7) (kCst (D.str [c99, c104, c97, c105, c110, c32, c110, c97, c109, c101])) (kCst (D.str [c110, c97, c109, c101]))) kNil)))))) kSNil) kSNil) (kSCons (kIff (kBin Op.eq (kVar 1) (kCst (D.str [c40]))) (kSCons (kRet (kTup (kCons (kVar 2) (kCons (kVar 3) (kCons (kBin Op.add (kVar 4) (kTup (kCons (kTup (kCons (kCst (D.str [c99, c97, c108, c108])) (kCons (kIte (kVar 7) (kCst (D.str [c99, c104, c97, c105, c110])) (kCst (D.str [c100, c111, c110, c101]))) kNil))) kNil))) (kCons (kCst (D.str [c97, c114, c103, c117, c109, c101, c110, c116])) kNil)))))) kSNil) kSNil) (kSCons (kRet (kTup (kCons (kVar 2) (kCons (kVar 3) (kCons (kBin Op.add (kVar 4) (kTup (kCons (kTup (kCons (kCst (D.str [c105, c110, c100, c101, c120])) (kCons (kIte (kVar 7) (kCst (D.str [c116, c97, c114, c103, c101, c116])) (kCst (D.str [c100, c111, c110, c101]))) kNil))) kNil))) (kCons (kCst (D.str [c111, c112, c101, c114, c97, c110, c100])) kNil)))))) kSNil))) kSNil) (kSCons (kIff (kBin Op.eq (kVar 1) (kCst (D.str [c44]))) (kSCons (kSet 9 (kDget (kCdic [[c103, c114, c111, c117, c112], [c108, c105, c115, c116], [c99, c97, c108, c108], [c105, c116, c101, c109]] [[c99, c108, c111, c115, c101], [c99, c108, c111, c115, c101], [c97, c114, c103, c117, c109, c101, c110, c116], [c99, c108, c111, c115, c101]]) (kVar 6) (kCst D.non))) (kSCons (kSet 10 (kIte (kBin Op.eq (kVar 6) (kCst (D.str [c105, c116, c101, c109]))) (kCst (D.str [c107, c101, c121])) (kVar 6))) (kSCons (kSet 4 (kIte (kNotN (kVar 9)) (kBin Op.add (kSlice (kVar 4) kONone (kOSome (kNeg (kCst (D.int 1))))) (kTup (kCons (kTup (kCons (kVar 10) (kCons (kIx (kIx (kVar 4) (kNeg (kCst (D.int 1)))) (kCst (D.int 1))) kNil))) kNil))) (kVar 4))) (kSCons (kRet (kIte (kNotN (kVar 9)) (kTup (kCons (kVar 2) (kCons (kVar 3) (kCons (kVar 4) (kCons (kVar 9) kNil))))) (kCst D.non))) kSNil)))) kSNil) (kSCons (kIff (kAnd (kBin Op.eq (kVar 1) (kCst (D.str [c58]))) (kBin Op.eq (kVar 6) (kCst (D.str [c107, c101, c121])))) (kSCons (kRet (kTup (kCons (kVar 2) (kCons (kVar 3) (kCons (kBin Op.add (kSlice (kVar 4) kONone (kOSome (kNeg (kCst (D.int 1))))) (kTup (kCons (kTup (kCons (kCst (D.str [c105, c116, c101, c109])) (kCons (kIx (kIx (kVar 4) (kNeg (kCst (D.int 1)))) (kCst (D.int 1))) kNil))) kNil))) (kCons (kCst (D.str [c111, c112, c101, c114, c97, c110, c100])) kNil)))))) kSNil) kSNil) (kSCons (kIff (kAnd (kBin Op.notin (kVar 6) (kTup (kCons (kCst (D.str [])) (kCons (kCst (D.str [c107, c101, c121])) (kCons (kCst (D.str [c110, c97, c109, c101, c115])) (kCons (kCst (D.str [c102, c105, c101, c108, c100])) kNil)))))) (kBin Op.eq (kVar 1) (kCall F 38 (kCons (kVar 6) kNil)))) (kSCons (kRet (kTup (kCons (kVar 2) (kCons (kVar 3) (kCons (kSlice (kVar 4) kONone (kOSome (kNeg (kCst (D.int 1))))) (kCons (kIx (kIx (kVar 4) (kNeg (kCst (D.int 1)))) (kCst (D.int 1))) kNil)))))) kSNil) kSNil) (kSCons (kRet (kIte (kBin Op.eq (kVar 4) (kTup kNil)) (kCall F 40 (kCons (kVar 0) (kCons (kVar 1) kNil))) (kCst D.non))) kSNil)))))))))
def m__law_ended : KS := (kSCons (kSets [2, 3, 4, 5] (kVar 0)) (kSCons (kIff (kAnd (kBin Op.eq (kVar 1) (kCst (D.str [c58]))) (kBin Op.eq (kIx (kVar 3) (kCst (D.int 0))) (kCst (D.str [c104, c101, c97, c100])))) (kSCons (kRet (kTup (kCons (kVar 2) (kCons (kBin Op.add (kBin Op.add (kTup (kCons (kCst (D.str [c115, c109, c97, c108, c108])) kNil)) (kSlice (kVar 3) (kOSome (kCst (D.int 1))) kONone)) (kTup (kCons (kCst (D.bl false)) kNil))) (kCons (kVar 4) (kCons (kCst (D.str [c115, c117, c105, c116, c101])) kNil)))))) kSNil) kSNil) (kSCons (kRet (kIte (kAnd (kBin Op.eq (kVar 1) (kCst (D.str [c59]))) (kBin Op.eq (kIx (kVar 3) (kCst (D.int 0))) (kCst (D.str [c115, c109, c97, c108, c108])))) (kTup (kCons (kVar 2) (kCons (kVar 3) (kCons (kVar 4) (kCons (kCst (D.str [c109, c111, c114, c101])) kNil))))) (kCst D.non))) kSNil)))
def m__law_begun : KS := (kSCons (kSets [2, 3, 4, 5] (kVar 0)) (kSCons (kSet 6 (kSlice (kIx (kVar 2) (kNeg (kCst (D.int 1)))) (kOSome (kCst (D.int 2))) kONone)) (kSCons (kIff (kOr (kBin Op.isin (kVar 1) (kM1 Mt1.split (kM1 Mt1.strip (kIx (kVar 3) (kCst (D.int 1))) (kCst (D.str [c33]))) (kCst (D.str [c32])))) (kAnd (kBin Op.eq (kVar 5) (kCst (D.str [c108, c105, c110, c101]))) (kBin Op.isin (kVar 1) (kTup (kCons (kCst (D.str [c105, c102])) (kCons (kCst (D.str [c119, c104, c105, c108, c101])) (kCons (kCst (D.str [c102, c111, c114])) (kCons (kCst (D.str [c100, c101, c102])) (kCons (kCst (D.str [c116, c114, c121])) kNil))))))))) (kSCons (kSet 7 (kIte (kBin Op.eq (kVar 1) (kCst (D.str [c100, c101, c102]))) (kTup (kCons (kCst (D.bl true)) (kCons (kCst (D.bl false)) kNil))) (kTup (kCons (kIx (kVar 6) (kCst (D.int 0))) (kCons (kOr (kIx (kVar 6) (kCst (D.int 1))) (kBin Op.isin (kVar 1) (kTup (kCons (kCst (D.str [c119, c104, c105, c108, c101])) (kCons (kCst (D.str [c102, c111, c114])) kNil))))) kNil))))) (kSCons (kSet 8 (kCdic [[c101, c108, c115, c101], [c116, c114, c121], [c102, c105, c110, c97, c108, c108, c121]] [[c99, c111, c108, c111, c110], [c99, c111, c108, c111, c110], [c99, c111, c108, c111, c110]])) (kSCons (kSet 8 (kF1 Fn1.dict (kBin Op.add (kItems (kVar 8)) (kLcomp 10 (kTup (kCons (kCst (D.str [c100, c101, c102])) (kCons (kCst (D.str [c102, c111, c114])) (kCons (kCst (D.str [c101, c120, c99, c101, c112, c116])) kNil)))) kTrue (kTup (kCons (kVar 10) (kCons (kVar 10) kNil))))))) (kSCons (kSet 9 (kCdic [[c105, c102], [c101, c108, c105, c102], [c116, c114, c121], [c101, c120, c99, c101, c112, c116]] [[c101, c108, c105, c102, c32, c101, c108, c115, c101], [c101, c108, c105, c102, c32, c101, c108, c115, c101], [c101, c120, c99, c101, c112, c116, c32, c102, c105, c110, c97, c108, c108, c121, c33], [c101, c120, c99, c101, c112, c116, c32, c102, c105, c110, c97, c108, c108, c121]])) (kSCons (kRet (kTup (kCons (kVar 2) (kCons (kBin Op.add (kTup (kCons (kCst (D.str [c104, c101, c97, c100])) (kCons (kDget (kVar 9) (kVar 1) (kCst (D.str []))) kNil))) (kVar 7)) (kCons (kTup kNil) (kCons (kDget (kVar 8) (kVar 1) (kCst (D.str [c111, c112, c101, c114, c97, c110, c100]))) kNil)))))) kSNil))))) kSNil) (kSCons (kIff (kBin Op.eq (kVar 5) (kCst (D.str [c99, c108, c97, c117, c115, c101]))) (kSCons (kRet (kCst D.non)) kSNil) kSNil) (kSCons (kRet (kCall F 42 (kCons (kTup (kCons (kVar 2) (kCons (kBin Op.add (kBin Op.add (kTup (kCons (kCst (D.str [c115, c109, c97, c108, c108])) (kCons (kCst (D.str [])) kNil))) (kVar 6)) (kTup (kCons (kIx (kVar 3) (kCst (D.int 2))) kNil))) (kCons (kTup kNil) (kCons (kCst (D.str [c115, c109, c97, c108, c108])) kNil))))) (kCons (kVar 1) kNil)))) kSNil)))))
def m__law_step : KS := (kSCons (kSets [2, 3, 4, 5] (kVar 0)) (kSCons (kIff (kBin Op.isin (kVar 5) (kTup (kCons (kCst (D.str [c108, c105, c110, c101])) (kCons (kCst (D.str [c99, c108, c97, c117, c115, c101])) kNil)))) (kSCons (kRet (kCall F 41 (kCons (kVar 0) (kCons (kVar 1) kNil)))) kSNil) kSNil) (kSCons (kIff (kAnd (kBin Op.isin (kVar 5) (kTup (kCons (kCst (D.str [c115, c109, c97, c108, c108])) (kCons (kCst (D.str [c109, c111, c114, c101])) (kCons (kCst (D.str [c115, c117, c105, c116, c101])) kNil))))) (kBin Op.isin (kVar 1) (kTup (kCons (kCst (D.str [c112, c97, c115, c115])) (kCons (kCst (D.str [c98, c114, c101, c97, c107])) (kCons (kCst (D.str [c114, c101, c116, c117, c114, c110])) kNil)))))) (kSCons (kIff (kBin Op.eq (kVar 1) (kCst (D.str [c114, c101, c116, c117, c114, c110]))) (kSCons (kRet (kIte (kIx (kVar 3) (kCst (D.int 2))) (kTup (kCons (kVar 2) (kCons (kVar 3) (kCons (kVar 4) (kCons (kCst (D.str [c118, c97, c108, c117, c101])) kNil))))) (kCst D.non))) kSNil) kSNil) (kSCons (kRet (kIte (kOr (kBin Op.eq (kVar 1) (kCst (D.str [c112, c97, c115, c115]))) (kIx (kVar 3) (kCst (D.int 3)))) (kTup (kCons (kVar 2) (kCons (kVar 3) (kCons (kVar 4) (kCons (kCst (D.str [c101, c110, c100])) kNil))))) (kCst D.non))) kSNil)) kSNil) (kSCons (kIff (kBin Op.isin (kVar 5) (kTup (kCons (kCst (D.str [c115, c109, c97, c108, c108])) (kCons (kCst (D.str [c109, c111, c114, c101])) (kCons (kCst (D.str [c115, c117, c105, c116, c101])) (kCons (kCst (D.str [c118, c97, c108, c117, c101])) (kCons (kCst (D.str [c111, c112, c101, c114, c97, c110, c100])) (kCons (kCst (D.str [c99, c108, c111, c115, c101])) (kCons (kCst (D.str [c97, c114, c103, c117, c109, c101, c110, c116])) kNil))))))))) (kSCons (kRet (kCall F 37 (kCons (kVar 0) (kCons (kVar 1) kNil)))) kSNil) kSNil) (kSCons (kIff (kBin Op.isin (kVar 5) (kTup (kCons (kCst (D.str [c116, c97, c114, c103, c101, c116])) (kCons (kCst (D.str [c99, c104, c97, c105, c110])) (kCons (kCst (D.str [c100, c111, c110, c101])) (kCons (kCst (D.str [c115, c101, c97, c108, c101, c100])) (kCons (kCst (D.str [c110, c97, c109, c101, c100])) kNil))))))) (kSCons (kRet (kCall F 39 (kCons (kVar 0) (kCons (kVar 1) kNil)))) kSNil) kSNil) (kSCons (kIff (kOr (kBin Op.isin (kVar 5) (kTup (kCons (kCst (D.str [c101, c110, c100])) (kCons (kCst (D.str [c99, c111, c108, c111, c110])) kNil)))) (kAnd (kBin Op.eq (kVar 5) (kCst (D.str [c101, c120, c99, c101, c112, c116]))) (kBin Op.eq (kVar 1) (kCst (D.str [c58]))))) (kSCons (kRet (kCall F 40 (kCons (kVar 0) (kCons (kVar 1) kNil)))) kSNil) kSNil) (kSCons (kSet 6 (kCdic [[c110, c97, c109, c101, c32, c110, c97, c109, c101], [c99, c104, c97, c105, c110, c32, c110, c97, c109, c101, c32, c110, c97, c109, c101], [c100, c101, c102, c32, c110, c97, c109, c101], [c102, c111, c114, c32, c110, c97, c109, c101]] [[c100, c111, c110, c101], [c116, c97, c114, c103, c101, c116], [c111, c112, c101, c110], [c102, c111, c114, c32, c105, c110]])) (kSCons (kIff (kBin Op.isin (kBin Op.add (kBin Op.add (kVar 5) (kCst (D.str [c32]))) (kVar 1)) (kVar 6)) (kSCons (kRet (kTup (kCons (kVar 2) (kCons (kVar 3) (kCons (kVar 4) (kCons (kIx (kVar 6) (kBin Op.add (kBin Op.add (kVar 5) (kCst (D.str [c32]))) (kVar 1))) kNil)))))) kSNil) kSNil) (kSCons (kSet 6 (kCdic [[c102, c111, c114, c32, c105, c110, c32, c105, c110], [c101, c120, c99, c101, c112, c116, c32, c110, c97, c109, c101], [c110, c97, c109, c101, c115, c32, c110, c97, c109, c101], [c109, c111, c114, c101, c32, c110, c97, c109, c101, c115, c32, c44]] [[c111, c112, c101, c114, c97, c110, c100], [c99, c111, c108, c111, c110], [c109, c111, c114, c101, c32, c110, c97, c109, c101, c115], [c110, c97, c109, c101, c115]])) (kSCons (kIff (kBin Op.isin (kBin Op.add (kBin Op.add (kVar 5) (kCst (D.str [c32]))) (kVar 1)) (kVar 6)) (kSCons (kRet (kTup (kCons (kVar 2) (kCons (kVar 3) (kCons (kVar 4) (kCons (kIx (kVar 6) (kBin Op.add (kBin Op.add (kVar 5) (kCst (D.str [c32]))) (kVar 1))) kNil)))))) kSNil) kSNil) (kSCons (kIff (kAnd (kBin Op.eq (kVar 5) (kCst (D.str [c111, c112, c101, c110]))) (kBin Op.eq (kVar 1) (kCst (D.str [c40])))) (kSCons (kRet (kTup (kCons (kVar 2) (kCons (kVar 3) (kCons (kTup (kCons (kTup (kCons (kCst (D.str [c110, c97, c109, c101, c115])) (kCons (kCst (D.str [c99, c111, c108, c111, c110])) kNil))) kNil)) (kCons (kCst (D.str [c110, c97, c109, c101, c115])) kNil)))))) kSNil) kSNil) (kSCons (kRet (kIte (kAnd (kBin Op.isin (kVar 5) (kTup (kCons (kCst (D.str [c110, c97, c109, c101, c115])) (kCons (kCst (D.str [c109, c111, c114, c101, c32, c110, c97, c109, c101, c115])) kNil)))) (kBin Op.eq (kVar 1) (kCst (D.str [c41])))) (kTup (kCons (kVar 2) (kCons (kVar 3) (kCons (kTup kNil) (kCons (kCst (D.str [c99, c111, c108, c111, c110])) kNil))))) (kCst D.non))) kSNil))))))))))))
def m__law_line_end : KS := (kSCons (kSets [1, 2, 3, 4] (kVar 0)) (kSCons (kIff (kOr (kBin Op.ne (kIx (kVar 2) (kCst (D.int 0))) (kCst (D.str [c115, c109, c97, c108, c108]))) (kBin Op.notin (kVar 4) (kTup (kCons (kCst (D.str [c116, c97, c114, c103, c101, c116])) (kCons (kCst (D.str [c99, c104, c97, c105, c110])) (kCons (kCst (D.str [c100, c111, c110, c101])) (kCons (kCst (D.str [c115, c101, c97, c108, c101, c100])) (kCons (kCst (D.str [c101, c110, c100])) (kCons (kCst (D.str [c118, c97, c108, c117, c101])) (kCons (kCst (D.str [c109, c111, c114, c101])) (kCons (kCst (D.str [c115, c117, c105, c116, c101])) kNil))))))))))) (kSCons (kRet (kCst D.non)) kSNil) kSNil) (kSCons (kIff (kIx (kVar 2) (kCst (D.int 4))) (kSCons (kRet (kTup (kCons (kTup kNil) (kCons (kTup (kCons (kCst (D.str [c111, c118, c101, c114])) kNil)) (kCons (kTup kNil) (kCons (kCst (D.str [])) kNil)))))) kSNil) kSNil) (kSCons (kSet 5 (kIte (kBin Op.eq (kVar 4) (kCst (D.str [c115, c117, c105, c116, c101]))) (kSlice (kVar 2) (kOSome (kCst (D.int 2))) (kOSome (kCst (D.int 4)))) (kTup kNil))) (kSCons (kRet (kTup (kCons (kBin Op.add (kSlice (kVar 1) kONone (kOSome (kNeg (kCst (D.int 1))))) (kTup (kCons (kBin Op.add (kTup (kCons (kIx (kIx (kVar 1) (kNeg (kCst (D.int 1)))) (kCst (D.int 0))) (kCons (kIx (kVar 2) (kCst (D.int 1))) kNil))) (kSlice (kIx (kVar 1) (kNeg (kCst (D.int 1)))) (kOSome (kCst (D.int 2))) kONone)) kNil))) (kCons (kTup (kCons (kCst (D.str [c102, c114, c111, c110, c116])) (kCons (kCst (D.int 0)) (kCons (kVar 5) kNil)))) (kCons (kTup kNil) (kCons (kCst (D.str [])) kNil)))))) kSNil)))))
def m__law_is_wordy : KS := (kSCons (kRet (kBin Op.isin (kVar 0) (kCst (D.str [c97, c98, c99, c100, c101, c102, c103, c104, c105, c106, c107, c108, c109, c110, c111, c112, c113, c114, c115, c116, c117, c118, c119, c120, c121, c122, c65, c66, c67, c68, c69, c70, c71, c72, c73, c74, c75, c76, c77, c78, c79, c80, c81, c82, c83, c84, c85, c86, c87, c88, c89, c90, c95, c48, c49, c50, c51, c52, c53, c54, c55, c56, c57])))) kSNil)
def m__law_keywords : KS := (kSCons (kSet 0 (kLst (kCons (kCst (D.str [c97, c110, c100])) (kCons (kCst (D.str [c98, c114, c101, c97, c107])) (kCons (kCst (D.str [c100, c101, c102])) (kCons (kCst (D.str [c101, c108, c105, c102])) (kCons (kCst (D.str [c101, c108, c115, c101])) (kCons (kCst (D.str [c101, c120, c99, c101, c112, c116])) (kCons (kCst (D.str [c102, c105, c110, c97, c108, c108, c121])) (kCons (kCst (D.str [c102, c111, c114])) (kCons (kCst (D.str [c105, c102])) (kCons (kCst (D.str [c105, c110])) (kCons (kCst (D.str [c110, c111, c116])) (kCons (kCst (D.str [c111, c114])) (kCons (kCst (D.str [c112, c97, c115, c115])) kNil))))))))))))))) (kSCons (kRet (kBin Op.add (kVar 0) (kLst (kCons (kCst (D.str [c114, c101, c116, c117, c114, c110])) (kCons (kCst (D.str [c116, c114, c121])) (kCons (kCst (D.str [c119, c104, c105, c108, c101])) kNil)))))) kSNil))
def m__law_can : KS := (kSCons (kIff (kNotN (kCall F 42 (kCons (kVar 0) (kCons (kCst (D.str [c110, c97, c109, c101])) kNil)))) (kSCons (kRet (kCst (D.bl true))) kSNil) kSNil) (kSCons (kSet 2 (kLcomp 3 (kCall F 45 kNil) (kBin Op.eq (kSlice (kVar 3) kONone (kOSome (kF1 Fn1.len (kVar 1)))) (kVar 1)) (kVar 3))) (kSCons (kRet (kBin Op.ne (kLcomp 3 (kVar 2) (kNotN (kCall F 42 (kCons (kVar 0) (kCons (kVar 3) kNil)))) (kVar 3)) (kLst kNil))) kSNil)))
def m__law_line_begun : KS := (kSCons (kSet 1 (kIx (kVar 0) (kCst (D.int 0)))) (kSCons (kSets [2, 3, 4] (kIx (kVar 0) (kCst (D.int 1)))) (kSCons (kIff (kBin Op.eq (kVar 1) (kTup kNil)) (kSCons (kRet (kIte (kBin Op.eq (kVar 3) (kCst (D.int 0))) (kTup (kCons (kTup (kCons (kTup (kCons (kCst (D.int 0)) (kCons (kCst (D.str [])) (kCons (kCst (D.bl false)) (kCons (kCst (D.bl false)) kNil))))) kNil)) (kCons (kTup (kCons (kCst (D.str [c108, c105, c110, c101])) (kCons (kCst (D.str [])) (kCons (kCst (D.bl true)) kNil)))) (kCons (kTup kNil) (kCons (kCst (D.str [c108, c105, c110, c101])) kNil))))) (kCst D.non))) kSNil) kSNil) (kSCons (kIff (kBin Op.ne (kVar 4) (kTup kNil)) (kSCons (kSet 5 (kTup (kCons (kBin Op.add (kVar 1) (kTup (kCons (kBin Op.add (kTup (kCons (kVar 3) (kCons (kCst (D.str [])) kNil))) (kVar 4)) kNil))) (kCons (kTup (kCons (kCst (D.str [c108, c105, c110, c101])) (kCons (kCst (D.str [])) (kCons (kCst (D.bl false)) kNil)))) (kCons (kTup kNil) (kCons (kCst (D.str [c108, c105, c110, c101])) kNil)))))) (kSCons (kRet (kIte (kBin Op.gt (kVar 3) (kIx (kIx (kVar 1) (kNeg (kCst (D.int 1)))) (kCst (D.int 0)))) (kVar 5) (kCst D.non))) kSNil)) kSNil) (kSCons (kWhil (kAnd (kBin Op.gt (kIx (kIx (kVar 1) (kNeg (kCst (D.int 1)))) (kCst (D.int 0))) (kVar 3)) (kBin Op.ne (kSlice (kIx (kIx (kVar 1) (kNeg (kCst (D.int 1)))) (kCst (D.int 1))) (kOSome (kNeg (kCst (D.int 1)))) kONone) (kCst (D.str [c33])))) (kSCons (kSet 1 (kSlice (kVar 1) kONone (kOSome (kNeg (kCst (D.int 1)))))) kSNil)) (kSCons (kSets [6, 7] (kSlice (kIx (kVar 1) (kNeg (kCst (D.int 1)))) kONone (kOSome (kCst (D.int 2))))) (kSCons (kSet 1 (kBin Op.add (kSlice (kVar 1) kONone (kOSome (kNeg (kCst (D.int 1))))) (kTup (kCons (kBin Op.add (kTup (kCons (kVar 6) (kCons (kCst (D.str [])) kNil))) (kSlice (kIx (kVar 1) (kNeg (kCst (D.int 1)))) (kOSome (kCst (D.int 2))) kONone)) kNil)))) (kSCons (kSet 8 (kIte (kOr (kBin Op.eq (kVar 6) (kCst (D.int 0))) (kBin Op.eq (kSlice (kVar 7) (kOSome (kNeg (kCst (D.int 1)))) kONone) (kCst (D.str [c33])))) (kCst (D.str [c99, c108, c97, c117, c115, c101])) (kCst (D.str [c108, c105, c110, c101])))) (kSCons (kRet (kIte (kBin Op.eq (kVar 6) (kVar 3)) (kTup (kCons (kVar 1) (kCons (kTup (kCons (kCst (D.str [c108, c105, c110, c101])) (kCons (kVar 7) (kCons (kCst (D.bl false)) kNil)))) (kCons (kTup kNil) (kCons (kVar 8) kNil))))) (kCst D.non))) kSNil)))))))))
def m__law_front : KS := (kSCons (kSet 2 (kIx (kVar 0) (kCst (D.int 0)))) (kSCons (kSets [3, 4, 5] (kIx (kVar 0) (kCst (D.int 1)))) (kSCons (kIff (kBin Op.eq (kVar 1) (kCst (D.str [c32]))) (kSCons (kRet (kTup (kCons (kTup (kCons (kVar 2) (kCons (kTup (kCons (kVar 3) (kCons (kBin Op.add (kVar 4) (kCst (D.int 1))) (kCons (kVar 5) kNil)))) (kCons (kTup kNil) (kCons (kCst (D.str [])) kNil))))) (kCons (kTup kNil) kNil)))) kSNil) kSNil) (kSCons (kIff (kBin Op.eq (kVar 1) (kCst (D.str [c35]))) (kSCons (kRet (kTup (kCons (kVar 0) (kCons (kTup (kCons (kCst (D.str [c99, c111, c109, c109, c101, c110, c116])) kNil)) kNil)))) kSNil) kSNil) (kSCons (kIff (kBin Op.ne (kVar 1) (kCst (D.str [c10]))) (kSCons (kSet 6 (kIte (kBin Op.ne (kVar 1) (kCst (D.str [c92]))) (kCall F 47 (kCons (kVar 0) kNil)) (kCst D.non))) (kSCons (kRet (kIte (kIsN (kVar 6)) (kCst D.non) (kCall F 49 (kCons (kVar 6) (kCons (kVar 1) kNil))))) kSNil)) kSNil) (kSCons (kIff (kBin Op.eq (kVar 2) (kTup kNil)) (kSCons (kRet (kTup (kCons (kTup (kCons (kTup kNil) (kCons (kTup (kCons (kCst (D.str [c102, c114, c111, c110, c116])) (kCons (kCst (D.int 0)) (kCons (kTup kNil) kNil)))) (kCons (kTup kNil) (kCons (kCst (D.str [])) kNil))))) (kCons (kTup kNil) kNil)))) kSNil) kSNil) (kSCons (kIff (kOr (kBin Op.ne (kVar 5) (kTup kNil)) (kBin Op.ne (kLcomp 7 (kVar 2) (kBin Op.eq (kSlice (kIx (kVar 7) (kCst (D.int 1))) (kOSome (kNeg (kCst (D.int 1)))) kONone) (kCst (D.str [c33]))) (kVar 7)) (kLst kNil))) (kSCons (kRet (kCst D.non)) kSNil) kSNil) (kSCons (kRet (kTup (kCons (kTup (kCons (kTup kNil) (kCons (kTup (kCons (kCst (D.str [c111, c118, c101, c114])) kNil)) (kCons (kTup kNil) (kCons (kCst (D.str [])) kNil))))) (kCons (kTup kNil) kNil)))) kSNil))))))))
def m__law_code : KS := (kSCons (kSets [2, 3, 4, 5] (kVar 0)) (kSCons (kIff (kOr (kBin Op.eq (kIx (kVar 3) (kCst (D.int 0))) (kCst (D.str [c111, c118, c101, c114]))) (kBin Op.eq (kIx (kVar 3) (kCst (D.int 0))) (kCst (D.str [c102, c114, c111, c110, c116])))) (kSCons (kRet (kIte (kBin Op.eq (kIx (kVar 3) (kCst (D.int 0))) (kCst (D.str [c111, c118, c101, c114]))) (kCst D.non) (kCall F 48 (kCons (kVar 0) (kCons (kVar 1) kNil))))) kSNil) kSNil) (kSCons (kIff (kOr (kBin Op.eq (kVar 1) (kCst (D.str [c32]))) (kAnd (kBin Op.eq (kVar 1) (kCst (D.str [c10]))) (kBin Op.ne (kVar 4) (kTup kNil)))) (kSCons (kRet (kTup (kCons (kVar 0) (kCons (kTup kNil) kNil)))) kSNil) kSNil) (kSCons (kSet 6 (kCall F 43 (kCons (kVar 0) kNil))) (kSCons (kIff (kBin Op.eq (kVar 1) (kCst (D.str [c10]))) (kSCons (kRet (kIte (kNotN (kVar 6)) (kTup (kCons (kVar 6) (kCons (kTup kNil) kNil))) (kCst D.non))) kSNil) kSNil) (kSCons (kIff (kOr (kBin Op.eq (kVar 1) (kCst (D.str [c92]))) (kAnd (kBin Op.eq (kVar 1) (kCst (D.str [c35]))) (kOr (kBin Op.ne (kVar 4) (kTup kNil)) (kNotN (kVar 6))))) (kSCons (kRet (kTup (kCons (kVar 0) (kCons (kIte (kBin Op.eq (kVar 1) (kCst (D.str [c92]))) (kTup (kCons (kCst (D.str [c106, c111, c105, c110])) kNil)) (kTup (kCons (kCst (D.str [c99, c111, c109, c109, c101, c110, c116])) kNil))) kNil)))) kSNil) kSNil) (kSCons (kIff (kCall F 44 (kCons (kVar 1) kNil)) (kSCons (kIff (kBin Op.isin (kVar 1) (kCst (D.str [c48, c49, c50, c51, c52, c53, c54, c55, c56, c57]))) (kSCons (kRet (kIte (kNotN (kCall F 42 (kCons (kVar 0) (kCons (kCst (D.str [c110, c117, c109, c98, c101, c114])) kNil)))) (kTup (kCons (kVar 0) (kCons (kTup (kCons (kCst (D.str [c110, c117, c109, c98, c101, c114])) (kCons (kVar 1) kNil))) kNil))) (kCst D.non))) kSNil) kSNil) (kSCons (kRet (kIte (kCall F 46 (kCons (kVar 0) (kCons (kVar 1) kNil))) (kTup (kCons (kVar 0) (kCons (kTup (kCons (kCst (D.str [c119, c111, c114, c100])) (kCons (kVar 1) kNil))) kNil))) (kCst D.non))) kSNil)) kSNil) (kSCons (kIff (kBin Op.isin (kVar 1) (kCst (D.str [c39, c34, c36]))) (kSCons (kSet 7 (kIte (kBin Op.eq (kVar 1) (kCst (D.str [c36]))) (kTup (kCons (kCst (D.str [c100, c111, c108, c108, c97, c114])) kNil)) (kTup (kCons (kCst (D.str [c113, c117, c111, c116, c101])) (kCons (kVar 1) kNil))))) (kSCons (kRet (kIte (kNotN (kCall F 42 (kCons (kVar 0) (kCons (kCst (D.str [c116, c101, c120, c116])) kNil)))) (kTup (kCons (kVar 0) (kCons (kVar 7) kNil))) (kCst D.non))) kSNil)) kSNil) (kSCons (kIff (kBin Op.isin (kVar 1) (kCst (D.str [c60, c62, c61, c33]))) (kSCons (kRet (kIte (kNotN (kCall F 42 (kCons (kVar 0) (kCons (kCst (D.str [c61, c61])) kNil)))) (kTup (kCons (kVar 0) (kCons (kTup (kCons (kCst (D.str [c111, c112])) (kCons (kVar 1) kNil))) kNil))) (kCst D.non))) kSNil) kSNil) (kSCons (kSet 8 (kBin Op.isin (kVar 5) (kTup (kCons (kCst (D.str [c116, c97, c114, c103, c101, c116])) (kCons (kCst (D.str [c99, c104, c97, c105, c110])) (kCons (kCst (D.str [c100, c111, c110, c101])) (kCons (kCst (D.str [c115, c101, c97, c108, c101, c100])) (kCons (kCst (D.str [c110, c97, c109, c101, c100])) kNil)))))))) (kSCons (kIff (kAnd (kBin Op.eq (kVar 1) (kCst (D.str [c125]))) (kAnd (kBin Op.ne (kVar 4) (kTup kNil)) (kAnd (kBin Op.eq (kIx (kIx (kVar 4) (kNeg (kCst (D.int 1)))) (kCst (D.int 0))) (kCst (D.str [c102, c105, c101, c108, c100]))) (kVar 8)))) (kSCons (kRet (kTup (kCons (kTup (kCons (kVar 2) (kCons (kVar 3) (kCons (kSlice (kVar 4) kONone (kOSome (kNeg (kCst (D.int 1))))) (kCons (kIx (kIx (kVar 4) (kNeg (kCst (D.int 1)))) (kCst (D.int 1))) kNil))))) (kCons (kTup (kCons (kCst (D.str [c116, c101, c109, c112, c108, c97, c116, c101])) (kCons (kCst (D.bl false)) kNil))) kNil)))) kSNil) kSNil) (kSCons (kSet 0 (kCall F 42 (kCons (kVar 0) (kCons (kIte (kBin Op.isin (kVar 1) (kCst (D.str [c43, c42, c47]))) (kCst (D.str [c111, c112])) (kVar 1)) kNil)))) (kSCons (kRet (kIte (kNotN (kVar 0)) (kTup (kCons (kVar 0) (kCons (kTup kNil) kNil))) (kCst D.non))) kSNil)))))))))))))
def m__law_in_text : KS := (kSCons (kIff (kBin Op.eq (kIx (kVar 1) (kCst (D.int 0))) (kCst (D.str [c108, c111, c110, c103]))) (kSCons (kSets [3, 4, 5, 6] (kVar 1)) (kSCons (kIff (kOr (kVar 6) (kBin Op.notin (kVar 2) (kTup (kCons (kVar 4) (kCons (kCst (D.str [c92])) kNil))))) (kSCons (kRet (kTup (kCons (kVar 0) (kCons (kTup (kCons (kCst (D.str [c108, c111, c110, c103])) (kCons (kVar 4) (kCons (kCst (D.int 0)) (kCons (kCst (D.bl false)) kNil))))) kNil)))) kSNil) kSNil) (kSCons (kIff (kBin Op.eq (kVar 2) (kCst (D.str [c92]))) (kSCons (kRet (kTup (kCons (kVar 0) (kCons (kTup (kCons (kCst (D.str [c108, c111, c110, c103])) (kCons (kVar 4) (kCons (kCst (D.int 0)) (kCons (kCst (D.bl true)) kNil))))) kNil)))) kSNil) kSNil) (kSCons (kRet (kIte (kBin Op.eq (kVar 5) (kCst (D.int 2))) (kTup (kCons (kCall F 42 (kCons (kVar 0) (kCons (kCst (D.str [c116, c101, c120, c116])) kNil))) (kCons (kTup kNil) kNil))) (kTup (kCons (kVar 0) (kCons (kTup (kCons (kCst (D.str [c108, c111, c110, c103])) (kCons (kVar 4) (kCons (kBin Op.add (kVar 5) (kCst (D.int 1))) (kCons (kCst (D.bl false)) kNil))))) kNil))))) kSNil)))) kSNil) (kSCons (kIff (kBin Op.eq (kVar 2) (kCst (D.str [c10]))) (kSCons (kRet (kCst D.non)) kSNil) kSNil) (kSCons (kIff (kBin Op.eq (kIx (kVar 1) (kCst (D.int 0))) (kCst (D.str [c115, c104, c111, c114, c116]))) (kSCons (kIff (kAnd (kBin Op.eq (kVar 2) (kIx (kVar 1) (kCst (D.int 1)))) (kNot (kIx (kVar 1) (kCst (D.int 2))))) (kSCons (kRet (kTup (kCons (kCall F 42 (kCons (kVar 0) (kCons (kCst (D.str [c116, c101, c120, c116])) kNil))) (kCons (kTup kNil) kNil)))) kSNil) kSNil) (kSCons (kRet (kTup (kCons (kVar 0) (kCons (kTup (kCons (kCst (D.str [c115, c104, c111, c114, c116])) (kCons (kIx (kVar 1) (kCst (D.int 1))) (kCons (kAnd (kBin Op.eq (kVar 2) (kCst (D.str [c92]))) (kNot (kIx (kVar 1) (kCst (D.int 2))))) kNil)))) kNil)))) kSNil)) kSNil) (kSCons (kIff (kOr (kIx (kVar 1) (kCst (D.int 1))) (kBin Op.notin (kVar 2) (kCst (D.str [c34, c123, c125])))) (kSCons (kRet (kTup (kCons (kVar 0) (kCons (kTup (kCons (kCst (D.str [c116, c101, c109, c112, c108, c97, c116, c101])) (kCons (kAnd (kBin Op.eq (kVar 2) (kCst (D.str [c92]))) (kNot (kIx (kVar 1) (kCst (D.int 1))))) kNil))) kNil)))) kSNil) kSNil) (kSCons (kSets [7, 8, 9, 10] (kVar 0)) (kSCons (kIff (kBin Op.eq (kVar 2) (kCst (D.str [c123]))) (kSCons (kRet (kTup (kCons (kTup (kCons (kVar 7) (kCons (kVar 8) (kCons (kBin Op.add (kVar 9) (kTup (kCons (kTup (kCons (kCst (D.str [c102, c105, c101, c108, c100])) (kCons (kVar 10) kNil))) kNil))) (kCons (kCst (D.str [c111, c112, c101, c114, c97, c110, c100])) kNil))))) (kCons (kTup kNil) kNil)))) kSNil) kSNil) (kSCons (kRet (kIte (kBin Op.eq (kVar 2) (kCst (D.str [c34]))) (kTup (kCons (kVar 0) (kCons (kTup kNil) kNil))) (kCst D.non))) kSNil)))))))
def m__law_after : KS := (kSCons (kIff (kBin Op.eq (kVar 1) (kTup kNil)) (kSCons (kRet (kCall F 49 (kCons (kVar 0) (kCons (kVar 2) kNil)))) kSNil) kSNil) (kSCons (kIff (kBin Op.isin (kIx (kVar 1) (kCst (D.int 0))) (kTup (kCons (kCst (D.str [c108, c111, c110, c103])) (kCons (kCst (D.str [c115, c104, c111, c114, c116])) (kCons (kCst (D.str [c116, c101, c109, c112, c108, c97, c116, c101])) kNil))))) (kSCons (kRet (kCall F 50 (kCons (kVar 0) (kCons (kVar 1) (kCons (kVar 2) kNil))))) kSNil) kSNil) (kSCons (kIff (kBin Op.eq (kIx (kVar 1) (kCst (D.int 0))) (kCst (D.str [c119, c111, c114, c100]))) (kSCons (kIff (kCall F 44 (kCons (kVar 2) kNil)) (kSCons (kRet (kIte (kCall F 46 (kCons (kVar 0) (kCons (kBin Op.add (kIx (kVar 1) (kCst (D.int 1))) (kVar 2)) kNil))) (kTup (kCons (kVar 0) (kCons (kTup (kCons (kCst (D.str [c119, c111, c114, c100])) (kCons (kBin Op.add (kIx (kVar 1) (kCst (D.int 1))) (kVar 2)) kNil))) kNil))) (kCst D.non))) kSNil) kSNil) (kSCons (kSet 0 (kCall F 42 (kCons (kVar 0) (kCons (kIte (kBin Op.isin (kIx (kVar 1) (kCst (D.int 1))) (kCall F 45 kNil)) (kIx (kVar 1) (kCst (D.int 1))) (kCst (D.str [c110, c97, c109, c101]))) kNil)))) (kSCons (kRet (kIte (kIsN (kVar 0)) (kCst D.non) (kCall F 49 (kCons (kVar 0) (kCons (kVar 2) kNil))))) kSNil))) kSNil) (kSCons (kIff (kBin Op.eq (kIx (kVar 1) (kCst (D.int 0))) (kCst (D.str [c110, c117, c109, c98, c101, c114]))) (kSCons (kIff (kCall F 44 (kCons (kVar 2) kNil)) (kSCons (kRet (kIte (kAnd (kBin Op.isin (kVar 2) (kCst (D.str [c48, c49, c50, c51, c52, c53, c54, c55, c56, c57]))) (kBin Op.ne (kIx (kVar 1) (kCst (D.int 1))) (kCst (D.str [c48])))) (kTup (kCons (kVar 0) (kCons (kVar 1) kNil))) (kCst D.non))) kSNil) kSNil) (kSCons (kRet (kCall F 49 (kCons (kCall F 42 (kCons (kVar 0) (kCons (kCst (D.str [c110, c117, c109, c98, c101, c114])) kNil))) (kCons (kVar 2) kNil)))) kSNil)) kSNil) (kSCons (kRet (kCall F 52 (kCons (kVar 0) (kCons (kVar 1) (kCons (kVar 2) kNil))))) kSNil)))))
def m__law_after_start : KS := (kSCons (kIff (kBin Op.eq (kIx (kVar 1) (kCst (D.int 0))) (kCst (D.str [c113, c117, c111, c116, c101]))) (kSCons (kIff (kBin Op.eq (kVar 2) (kIx (kVar 1) (kCst (D.int 1)))) (kSCons (kRet (kTup (kCons (kVar 0) (kCons (kTup (kCons (kCst (D.str [c112, c97, c105, c114])) (kCons (kVar 2) kNil))) kNil)))) kSNil) kSNil) (kSCons (kRet (kCall F 50 (kCons (kVar 0) (kCons (kTup (kCons (kCst (D.str [c115, c104, c111, c114, c116])) (kCons (kIx (kVar 1) (kCst (D.int 1))) (kCons (kCst (D.bl false)) kNil)))) (kCons (kVar 2) kNil))))) kSNil)) kSNil) (kSCons (kIff (kBin Op.eq (kIx (kVar 1) (kCst (D.int 0))) (kCst (D.str [c112, c97, c105, c114]))) (kSCons (kRet (kIte (kBin Op.eq (kVar 2) (kIx (kVar 1) (kCst (D.int 1)))) (kTup (kCons (kVar 0) (kCons (kTup (kCons (kCst (D.str [c108, c111, c110, c103])) (kCons (kVar 2) (kCons (kCst (D.int 0)) (kCons (kCst (D.bl false)) kNil))))) kNil))) (kCall F 49 (kCons (kCall F 42 (kCons (kVar 0) (kCons (kCst (D.str [c116, c101, c120, c116])) kNil))) (kCons (kVar 2) kNil))))) kSNil) kSNil) (kSCons (kIff (kBin Op.eq (kIx (kVar 1) (kCst (D.int 0))) (kCst (D.str [c100, c111, c108, c108, c97, c114]))) (kSCons (kRet (kIte (kBin Op.eq (kVar 2) (kCst (D.str [c34]))) (kTup (kCons (kCall F 42 (kCons (kVar 0) (kCons (kCst (D.str [c116, c101, c120, c116])) kNil))) (kCons (kTup (kCons (kCst (D.str [c116, c101, c109, c112, c108, c97, c116, c101])) (kCons (kCst (D.bl false)) kNil))) kNil))) (kCst D.non))) kSNil) kSNil) (kSCons (kIff (kBin Op.eq (kIx (kVar 1) (kCst (D.int 0))) (kCst (D.str [c106, c111, c105, c110]))) (kSCons (kRet (kIte (kBin Op.eq (kVar 2) (kCst (D.str [c10]))) (kTup (kCons (kVar 0) (kCons (kTup kNil) kNil))) (kCst D.non))) kSNil) kSNil) (kSCons (kIff (kBin Op.eq (kIx (kVar 1) (kCst (D.int 0))) (kCst (D.str [c99, c111, c109, c109, c101, c110, c116]))) (kSCons (kIff (kAnd (kBin Op.eq (kVar 2) (kCst (D.str [c10]))) (kBin Op.eq (kIx (kIx (kVar 0) (kCst (D.int 1))) (kCst (D.int 0))) (kCst (D.str [c102, c114, c111, c110, c116])))) (kSCons (kRet (kTup (kCons (kTup (kCons (kIx (kVar 0) (kCst (D.int 0))) (kCons (kTup (kCons (kCst (D.str [c102, c114, c111, c110, c116])) (kCons (kCst (D.int 0)) (kCons (kIx (kIx (kVar 0) (kCst (D.int 1))) (kCst (D.int 2))) kNil)))) (kCons (kTup kNil) (kCons (kCst (D.str [])) kNil))))) (kCons (kTup kNil) kNil)))) kSNil) kSNil) (kSCons (kRet (kIte (kBin Op.eq (kVar 2) (kCst (D.str [c10]))) (kCall F 49 (kCons (kVar 0) (kCons (kVar 2) kNil))) (kTup (kCons (kVar 0) (kCons (kVar 1) kNil))))) kSNil)) kSNil) (kSCons (kIff (kBin Op.eq (kVar 2) (kCst (D.str [c61]))) (kSCons (kRet (kTup (kCons (kCall F 42 (kCons (kVar 0) (kCons (kCst (D.str [c61, c61])) kNil))) (kCons (kTup kNil) kNil)))) kSNil) kSNil) (kSCons (kSet 0 (kIte (kBin Op.eq (kIx (kVar 1) (kCst (D.int 1))) (kCst (D.str [c33]))) (kCst D.non) (kCall F 42 (kCons (kVar 0) (kCons (kIte (kBin Op.eq (kIx (kVar 1) (kCst (D.int 1))) (kCst (D.str [c61]))) (kCst (D.str [c61])) (kCst (D.str [c111, c112]))) kNil))))) (kSCons (kRet (kIte (kIsN (kVar 0)) (kCst D.non) (kCall F 49 (kCons (kVar 0) (kCons (kVar 2) kNil))))) kSNil))))))))
def m__law_run : KS := (kSCons (kSets [1, 2] (kTup (kCons (kTup (kCons (kTup kNil) (kCons (kTup (kCons (kCst (D.str [c102, c114, c111, c110, c116])) (kCons (kCst (D.int 0)) (kCons (kTup kNil) kNil)))) (kCons (kTup kNil) (kCons (kCst (D.str [])) kNil))))) (kCons (kTup kNil) kNil)))) (kSCons (kForR 3 (kF1 Fn1.len (kVar 0)) (kSCons (kSet 4 (kCall F 51 (kCons (kVar 1) (kCons (kVar 2) (kCons (kIx (kVar 0) (kVar 3)) kNil))))) (kSCons (kIff (kIsN (kVar 4)) (kSCons (kRet (kTup (kCons (kCst D.non) (kCons (kCst D.non) (kCons (kVar 3) kNil))))) kSNil) kSNil) (kSCons (kSets [1, 2] (kVar 4)) kSNil)))) (kSCons (kRet (kTup (kCons (kVar 1) (kCons (kVar 2) (kCons (kCst D.non) kNil))))) kSNil)))
def m__law_judged : KS := (kSCons (kSets [1, 2, 3] (kCall F 53 (kCons (kVar 0) kNil))) (kSCons (kIff (kIsN (kVar 1)) (kSCons (kRet (kTup (kCons (kCst (D.str [c119, c114, c111, c110, c103])) (kCons (kVar 3) kNil)))) kSNil) kSNil) (kSCons (kIff (kBin Op.eq (kIx (kIx (kVar 1) (kCst (D.int 1))) (kCst (D.int 0))) (kCst (D.str [c111, c118, c101, c114]))) (kSCons (kRet (kTup (kCons (kCst (D.str [c99, c111, c109, c112, c108, c101, c116, c101])) (kCons (kCst D.non) kNil)))) kSNil) kSNil) (kSCons (kRet (kTup (kCons (kIte (kBin Op.eq (kIx (kVar 1) (kCst (D.int 0))) (kTup kNil)) (kCst (D.str [c101, c109, c112, c116, c121])) (kCst (D.str [c105, c110, c99, c111, c109, c112, c108, c101, c116, c101]))) (kCons (kCst D.non) kNil)))) kSNil))))
def m__law_settled : KS := (kSCons (kSet 2 (kM1 Mt1.join (kCst (D.str [])) (kLcomp 4 (kVar 0) kTrue (kBin Op.add (kVar 4) (kCst (D.str [c10])))))) (kSCons (kSet 3 (kIx (kCall F 54 (kCons (kVar 2) kNil)) (kCst (D.int 0)))) (kSCons (kIff (kBin Op.eq (kVar 3) (kCst (D.str [c99, c111, c109, c112, c108, c101, c116, c101]))) (kSCons (kRet (kTup (kCons (kVar 3) (kCons (kLst kNil) (kCons (kBin Op.add (kVar 1) (kLst (kCons (kVar 2) kNil))) kNil))))) kSNil) kSNil) (kSCons (kRet (kTup (kCons (kVar 3) (kCons (kIte (kBin Op.eq (kVar 3) (kCst (D.str [c101, c109, c112, c116, c121]))) (kLst kNil) (kVar 0)) (kCons (kVar 1) kNil))))) kSNil))))
def m_parts : KS := (kSCons (kRet (kTup (kCons (kAttr (kVar 0) 0) (kCons (kAttr (kVar 0) 1) (kCons (kAttr (kVar 0) 2) (kCons (kAttr (kVar 0) 3) (kCons (kAttr (kVar 0) 4) kNil))))))) kSNil)
def m_in_phase : KS := (kSCons (kRet (kCall F 0 (kCons (kAttr (kVar 0) 0) (kCons (kAttr (kVar 0) 1) (kCons (kAttr (kVar 0) 2) (kCons (kVar 1) (kCons (kVar 2) kNil))))))) kSNil)
def m_with_token : KS := (kSCons (kRet (kCall F 0 (kCons (kAttr (kVar 0) 0) (kCons (kAttr (kVar 0) 1) (kCons (kAttr (kVar 0) 2) (kCons (kAttr (kVar 0) 3) (kCons (kVar 1) kNil))))))) kSNil)
def m_opened : KS := (kSCons (kRet (kCall F 0 (kCons (kAttr (kVar 0) 0) (kCons (kAttr (kVar 0) 1) (kCons (kTup (kStar (kAttr (kVar 0) 2) (kCons (kTup (kCons (kVar 1) (kCons (kVar 2) kNil))) kNil))) (kCons (kVar 3) kNil)))))) kSNil)
def m_reframed : KS := (kSCons (kSet 3 (kIx (kIx (kAttr (kVar 0) 2) (kNeg (kCst (D.int 1)))) (kCst (D.int 1)))) (kSCons (kRet (kCall F 0 (kCons (kAttr (kVar 0) 0) (kCons (kAttr (kVar 0) 1) (kCons (kTup (kStar (kSlice (kAttr (kVar 0) 2) kONone (kOSome (kNeg (kCst (D.int 1))))) (kCons (kTup (kCons (kVar 1) (kCons (kVar 3) kNil))) kNil))) (kCons (kVar 2) kNil)))))) kSNil))
def m_closed : KS := (kSCons (kSets [1, 2] (kIx (kAttr (kVar 0) 2) (kNeg (kCst (D.int 1))))) (kSCons (kSet 3 (kIte (kBin Op.eq (kVar 1) (kCst (D.str [c102]))) (kTup (kCons (kCst (D.str [c116, c101, c109, c112, c108, c97, c116, c101])) (kCons (kVar 2) (kCons (kCst (D.bl false)) kNil)))) (kTup kNil))) (kSCons (kRet (kCall F 0 (kCons (kAttr (kVar 0) 0) (kCons (kAttr (kVar 0) 1) (kCons (kSlice (kAttr (kVar 0) 2) kONone (kOSome (kNeg (kCst (D.int 1))))) (kCons (kVar 2) (kCons (kVar 3) kNil))))))) kSNil)))
def m_innermost : KS := (kSCons (kRet (kIte (kBin Op.ne (kAttr (kVar 0) 2) (kTup kNil)) (kIx (kIx (kAttr (kVar 0) 2) (kNeg (kCst (D.int 1)))) (kCst (D.int 0))) (kCst (D.str [])))) kSNil)
def m_is_prefix : KS := (kSCons (kIff (kBin Op.isin (kAttr (kVar 0) 3) (kCst gk_ANY_WORD)) (kSCons (kRet (kCst (D.bl true))) kSNil) kSNil) (kSCons (kSet 2 (kTup kNil)) (kSCons (kIff (kBin Op.isin (kAttr (kVar 0) 3) (kCst gk_DONE)) (kSCons (kSet 2 (kCst gk_BINARY_WORDS)) kSNil) (kSCons (kIff (kBin Op.eq (kAttr (kVar 0) 3) (kCst (D.str [c102, c111, c114, c105, c110]))) (kSCons (kSet 2 (kTup (kCons (kCst (D.str [c105, c110])) kNil))) kSNil) (kSCons (kIff (kBin Op.eq (kAttr (kVar 0) 3) (kCst (D.str [c99, c108, c97, c117, c115, c101]))) (kSCons (kSet 2 (kKget2 tk_CLAUSES.1 tk_CLAUSES.2 (kIx (kAttr (kVar 0) 1) (kCst (D.int 1))))) kSNil) kSNil) kSNil)) kSNil)) (kSCons (kRet (kF1 Fn1.any (kLcomp 3 (kVar 2) kTrue (kM1 Mt1.startswith (kVar 3) (kVar 1))))) kSNil))))
end
theorem me_consists_of (F : Ft) : evSL gt F b_consists_of = m_consists_of := by kernel_rfl
theorem me_is_line (F : Ft) : evSL gt F b_is_line = m_is_line F := by kernel_rfl
theorem me_is_text (F : Ft) : evSL gt F b_is_text = m_is_text F := by kernel_rfl
theorem me_with_clauses (F : Ft) : evSL gt F b_with_clauses = m_with_clauses := by kernel_rfl
theorem me_after_line (F : Ft) : evSL gt F b_after_line = m_after_line F := by kernel_rfl
theorem me_after_empty_line (F : Ft) : evSL gt F b_after_empty_line = m_after_empty_line F := by kernel_rfl
theorem me_line_begun (F : Ft) : evSL gt F b_line_begun = m_line_begun F := by kernel_rfl
theorem me_small_begun (F : Ft) : evSL gt F b_small_begun = m_small_begun F := by kernel_rfl
theorem me_header_begun (F : Ft) : evSL gt F b_header_begun = m_header_begun F := by kernel_rfl
theorem me_after_word (F : Ft) : evSL gt F b_after_word = m_after_word F := by kernel_rfl
theorem me_may_assign (F : Ft) : evSL gt F b_may_assign = m_may_assign := by kernel_rfl
theorem me_after_short (F : Ft) : evSL gt F b_after_short = m_after_short F := by kernel_rfl
theorem me_after_long (F : Ft) : evSL gt F b_after_long = m_after_long F := by kernel_rfl
theorem me_after_template (F : Ft) : evSL gt F b_after_template = m_after_template F := by kernel_rfl
theorem me_after_operator (F : Ft) : evSL gt F b_after_operator = m_after_operator F := by kernel_rfl
theorem me_after_word_sign (F : Ft) : evSL gt F b_after_word_sign = m_after_word_sign F := by kernel_rfl
theorem me_after_number (F : Ft) : evSL gt F b_after_number = m_after_number F := by kernel_rfl
theorem me_after_quote (F : Ft) : evSL gt F b_after_quote = m_after_quote F := by kernel_rfl
theorem me_after_token (F : Ft) : evSL gt F b_after_token = m_after_token F := by kernel_rfl
theorem me_after_operand_sign (F : Ft) : evSL gt F b_after_operand_sign = m_after_operand_sign F := by kernel_rfl
theorem me_after_comma (F : Ft) : evSL gt F b_after_comma = m_after_comma F := by kernel_rfl
theorem me_after_colon (F : Ft) : evSL gt F b_after_colon = m_after_colon F := by kernel_rfl
theorem me_after_done_sign (F : Ft) : evSL gt F b_after_done_sign = m_after_done_sign F := by kernel_rfl
theorem me_after_code_sign (F : Ft) : evSL gt F b_after_code_sign = m_after_code_sign F := by kernel_rfl
theorem me_after_start_sign (F : Ft) : evSL gt F b_after_start_sign = m_after_start_sign F := by kernel_rfl
theorem me_after_plain (F : Ft) : evSL gt F b_after_plain = m_after_plain F := by kernel_rfl
theorem me_next_state (F : Ft) : evSL gt F b_next_state = m_next_state F := by kernel_rfl
theorem me_state_behind (F : Ft) : evSL gt F b_state_behind = m_state_behind F := by kernel_rfl
theorem me_state_of (F : Ft) : evSL gt F b_state_of = m_state_of F := by kernel_rfl
theorem me_is_entry_state (F : Ft) : evSL gt F b_is_entry_state = m_is_entry_state := by kernel_rfl
theorem me_state_verdict (F : Ft) : evSL gt F b_state_verdict = m_state_verdict F := by kernel_rfl
theorem me_is_index (F : Ft) : evSL gt F b_is_index = m_is_index := by kernel_rfl
theorem me_is_entry (F : Ft) : evSL gt F b_is_entry = m_is_entry F := by kernel_rfl
theorem me_is_count (F : Ft) : evSL gt F b_is_count = m_is_count := by kernel_rfl
theorem me__law_mixed (F : Ft) : evSL gt F b__law_mixed = m__law_mixed := by kernel_rfl
theorem me__law_primary_end (F : Ft) : evSL gt F b__law_primary_end = m__law_primary_end := by kernel_rfl
theorem me__law_operand (F : Ft) : evSL gt F b__law_operand = m__law_operand F := by kernel_rfl
theorem me__law_end_of (F : Ft) : evSL gt F b__law_end_of = m__law_end_of := by kernel_rfl
theorem me__law_behind (F : Ft) : evSL gt F b__law_behind = m__law_behind F := by kernel_rfl
theorem me__law_ended (F : Ft) : evSL gt F b__law_ended = m__law_ended := by kernel_rfl
theorem me__law_begun (F : Ft) : evSL gt F b__law_begun = m__law_begun F := by kernel_rfl
theorem me__law_step (F : Ft) : evSL gt F b__law_step = m__law_step F := by kernel_rfl
theorem me__law_line_end (F : Ft) : evSL gt F b__law_line_end = m__law_line_end := by kernel_rfl
theorem me__law_is_wordy (F : Ft) : evSL gt F b__law_is_wordy = m__law_is_wordy := by kernel_rfl
theorem me__law_keywords (F : Ft) : evSL gt F b__law_keywords = m__law_keywords := by kernel_rfl
theorem me__law_can (F : Ft) : evSL gt F b__law_can = m__law_can F := by kernel_rfl
theorem me__law_line_begun (F : Ft) : evSL gt F b__law_line_begun = m__law_line_begun := by kernel_rfl
theorem me__law_front (F : Ft) : evSL gt F b__law_front = m__law_front F := by kernel_rfl
theorem me__law_code (F : Ft) : evSL gt F b__law_code = m__law_code F := by kernel_rfl
theorem me__law_in_text (F : Ft) : evSL gt F b__law_in_text = m__law_in_text F := by kernel_rfl
theorem me__law_after (F : Ft) : evSL gt F b__law_after = m__law_after F := by kernel_rfl
theorem me__law_after_start (F : Ft) : evSL gt F b__law_after_start = m__law_after_start F := by kernel_rfl
theorem me__law_run (F : Ft) : evSL gt F b__law_run = m__law_run F := by kernel_rfl
theorem me__law_judged (F : Ft) : evSL gt F b__law_judged = m__law_judged F := by kernel_rfl
theorem me__law_settled (F : Ft) : evSL gt F b__law_settled = m__law_settled F := by kernel_rfl
theorem me_parts (F : Ft) : evSL gt F b_parts = m_parts := by kernel_rfl
theorem me_in_phase (F : Ft) : evSL gt F b_in_phase = m_in_phase F := by kernel_rfl
theorem me_with_token (F : Ft) : evSL gt F b_with_token = m_with_token F := by kernel_rfl
theorem me_opened (F : Ft) : evSL gt F b_opened = m_opened F := by kernel_rfl
theorem me_reframed (F : Ft) : evSL gt F b_reframed = m_reframed F := by kernel_rfl
theorem me_closed (F : Ft) : evSL gt F b_closed = m_closed F := by kernel_rfl
theorem me_innermost (F : Ft) : evSL gt F b_innermost = m_innermost := by kernel_rfl
theorem me_is_prefix (F : Ft) : evSL gt F b_is_prefix = m_is_prefix := by kernel_rfl
end Rp
namespace Rp
open PySem PySem.Spec PyProof.Rows L2
def startK : Nat → List D → Ev
  | 0, _ => []
  | n + 1, [] => none :: startK n []
  | n + 1, v :: vs => some v :: startK n vs
def runM (n slots : Nat) (b : KS) (ds : List D) : Option D := match Nat.beq ds.length n with
  | true => outD (b (startK slots ds))
  | false => none
def runM1 (n slots : Nat) (dfl : List D) (b : KS) (ds : List D) : Option D := match Nat.ble ds.length n, Nat.ble n (ds.length + dfl.length) with
  | true, true => outD (b (startK slots (ds ++ dfl.drop (ds.length + dfl.length - n))))
  | _, _ => none
def runMS (n slots : Nat) (b : KS) (ds : List D) : Option D := match Nat.ble n ds.length with
  | true => match fit ds.length with
    | true => outD (b (startK slots (ds.take n ++ [.tup (ds.drop n)])))
    | false => none
  | false => none
def disp (F : Ft) (f : Nat) (ds : List D) : Option D := cond (Nat.ble 64 f) none (cond (Nat.ble 32 f) (cond (Nat.ble 48 f) (cond (Nat.ble 56 f) (cond (Nat.ble 60 f) (cond (Nat.ble 62 f) (cond (Nat.ble 63 f) (runM 2 4 (m_is_prefix) ds) (runM 1 1 (m_innermost) ds)) (cond (Nat.ble 61 f) (runM 1 4 (m_closed F) ds) (runM 3 4 (m_reframed F) ds))) (cond (Nat.ble 58 f) (cond (Nat.ble 59 f) (runM 4 4 (m_opened F) ds) (runMS 1 2 (m_with_token F) ds)) (cond (Nat.ble 57 f) (runM1 3 3 [.tup []] (m_in_phase F) ds) (runM 1 1 (m_parts) ds)))) (cond (Nat.ble 52 f) (cond (Nat.ble 54 f) (cond (Nat.ble 55 f) (runM 2 5 (m__law_settled F) ds) (runM 1 4 (m__law_judged F) ds)) (cond (Nat.ble 53 f) (runM 1 5 (m__law_run F) ds) (runM 3 3 (m__law_after_start F) ds))) (cond (Nat.ble 50 f) (cond (Nat.ble 51 f) (runM 3 3 (m__law_after F) ds) (runM 3 11 (m__law_in_text F) ds)) (cond (Nat.ble 49 f) (runM 2 9 (m__law_code F) ds) (runM 2 8 (m__law_front F) ds))))) (cond (Nat.ble 40 f) (cond (Nat.ble 44 f) (cond (Nat.ble 46 f) (cond (Nat.ble 47 f) (runM 1 9 (m__law_line_begun) ds) (runM 2 4 (m__law_can F) ds)) (cond (Nat.ble 45 f) (runM 0 1 (m__law_keywords) ds) (runM 1 1 (m__law_is_wordy) ds))) (cond (Nat.ble 42 f) (cond (Nat.ble 43 f) (runM 1 6 (m__law_line_end) ds) (runM 2 7 (m__law_step F) ds)) (cond (Nat.ble 41 f) (runM 2 11 (m__law_begun F) ds) (runM 2 6 (m__law_ended) ds)))) (cond (Nat.ble 36 f) (cond (Nat.ble 38 f) (cond (Nat.ble 39 f) (runM 2 11 (m__law_behind F) ds) (runM 1 2 (m__law_end_of) ds)) (cond (Nat.ble 37 f) (runM 2 7 (m__law_operand F) ds) (runM 2 2 (m__law_primary_end) ds))) (cond (Nat.ble 34 f) (cond (Nat.ble 35 f) (runM 2 3 (m__law_mixed) ds) (runM 2 2 (m_is_count) ds)) (cond (Nat.ble 33 f) (runM 1 2 (m_is_entry F) ds) (runM 2 2 (m_is_index) ds)))))) (cond (Nat.ble 16 f) (cond (Nat.ble 24 f) (cond (Nat.ble 28 f) (cond (Nat.ble 30 f) (cond (Nat.ble 31 f) (runM 1 1 (m_state_verdict F) ds) (runM 1 1 (m_is_entry_state) ds)) (cond (Nat.ble 29 f) (runM 1 1 (m_state_of F) ds) (runM 2 5 (m_state_behind F) ds))) (cond (Nat.ble 26 f) (cond (Nat.ble 27 f) (runM 2 2 (m_next_state F) ds) (runM 2 2 (m_after_plain F) ds)) (cond (Nat.ble 25 f) (runM 2 6 (m_after_start_sign F) ds) (runM 2 3 (m_after_code_sign F) ds)))) (cond (Nat.ble 20 f) (cond (Nat.ble 22 f) (cond (Nat.ble 23 f) (runM 2 4 (m_after_done_sign F) ds) (runM 1 5 (m_after_colon F) ds)) (cond (Nat.ble 21 f) (runM 1 1 (m_after_comma F) ds) (runM 2 4 (m_after_operand_sign F) ds))) (cond (Nat.ble 18 f) (cond (Nat.ble 19 f) (runM 2 2 (m_after_token F) ds) (runM 2 5 (m_after_quote F) ds)) (cond (Nat.ble 17 f) (runM 2 2 (m_after_number F) ds) (runM 2 4 (m_after_word_sign F) ds))))) (cond (Nat.ble 8 f) (cond (Nat.ble 12 f) (cond (Nat.ble 14 f) (cond (Nat.ble 15 f) (runM 2 3 (m_after_operator F) ds) (runM 2 5 (m_after_template F) ds)) (cond (Nat.ble 13 f) (runM 2 7 (m_after_long F) ds) (runM 2 6 (m_after_short F) ds))) (cond (Nat.ble 10 f) (cond (Nat.ble 11 f) (runM 2 2 (m_may_assign) ds) (runM 2 4 (m_after_word F) ds)) (cond (Nat.ble 9 f) (runM 2 10 (m_header_begun F) ds) (runM 1 5 (m_small_begun F) ds)))) (cond (Nat.ble 4 f) (cond (Nat.ble 6 f) (cond (Nat.ble 7 f) (runM 1 10 (m_line_begun F) ds) (runM 1 5 (m_after_empty_line F) ds)) (cond (Nat.ble 5 f) (runM 1 7 (m_after_line F) ds) (runM 2 6 (m_with_clauses) ds))) (cond (Nat.ble 2 f) (cond (Nat.ble 3 f) (runM 1 1 (m_is_text F) ds) (runM 1 1 (m_is_line F) ds)) (cond (Nat.ble 1 f) (runM 2 3 (m_consists_of) ds) (mkSt sdfl ds)))))))
def FM : Nat → Ft
  | 0, _, _ => none
  | m + 1, f, ds => disp (FM m) f ds
end Rp
namespace Rp
open PySem PySem.Spec PyProof.Rows L2
/-- one call, by number -/
def fstep (F : Ft) (f : Nat) (ds : List D) : Option D := match f with
  | 0 => mkSt sdfl ds
  | f + 1 => match prog (f + 1) with
    | some g => runF gt F g ds
    | none => none
theorem startK_ok : ∀ {n : Nat} {vs : List D}, vs.length ≤ n → startK n vs = startD n vs
  | 0, [], _ => rfl
  | 0, _ :: _, h => by simp at h
  | n + 1, [], h => by
    have := startK_ok (n := n) (vs := []) (Nat.zero_le _)
    show none :: startK n [] = _
    rw [this]
    rfl
  | n + 1, v :: vs, h => by
    have := startK_ok (n := n) (vs := vs) (by simpa using h)
    show some v :: startK n vs = _
    rw [this]
    unfold startD
    rw [List.map_cons, List.length_cons, Nat.add_sub_add_right]
    rfl
theorem runM_ok {F : Ft} {n slots : Nat} {b : KS} {b' : SL} (h : evSL gt F b' = b) (hle : Nat.ble n slots = true) (ds : List D) : runM n slots b ds = runF gt F ⟨n, [], false, slots, b'⟩ ds := by
  have hle := Nat.le_of_ble_eq_true hle
  unfold runM runF bindF
  simp only [List.length_nil, Nat.add_zero, List.drop_nil, List.append_nil]
  cases e : Nat.beq ds.length n with
  | true =>
    have e := Nat.eq_of_beq_eq_true e
    have z : Nat.ble n n = true := Nat.ble_eq.mpr (Nat.le_refl n)
    rw [e, z]
    simp only
    rw [startK_ok (by omega), h]
  | false =>
    have e := Nat.ne_of_beq_eq_false e
    cases h1 : Nat.ble ds.length n with
    | false => rfl
    | true =>
      cases h2 : Nat.ble n ds.length with
      | false => rfl
      | true => exact absurd (Nat.le_antisymm (Nat.le_of_ble_eq_true h1) (Nat.le_of_ble_eq_true h2)) e
theorem runM1_ok {F : Ft} {n slots : Nat} {dfl : List D} {b : KS} {b' : SL} (h : evSL gt F b' = b) (hle : Nat.ble n slots = true) (ds : List D) : runM1 n slots dfl b ds = runF gt F ⟨n, dfl, false, slots, b'⟩ ds := by
  have hle := Nat.le_of_ble_eq_true hle
  unfold runM1 runF bindF
  cases h1 : Nat.ble ds.length n with
  | false => rfl
  | true =>
    cases h2 : Nat.ble n (ds.length + dfl.length) with
    | false => rfl
    | true =>
      have h3 := Nat.le_of_ble_eq_true h1
      have h4 := Nat.le_of_ble_eq_true h2
      simp only [h1, h2]
      rw [startK_ok (by rw [List.length_append, List.length_drop]; omega), h]
theorem runMS_ok {F : Ft} {n slots : Nat} {b : KS} {b' : SL} (h : evSL gt F b' = b) (hle : Nat.ble (n + 1) slots = true) (ds : List D) : runMS n slots b ds = runF gt F ⟨n, [], true, slots, b'⟩ ds := by
  have hle := Nat.le_of_ble_eq_true hle
  unfold runMS runF bindF
  simp only
  cases h1 : Nat.ble n ds.length with
  | false => rfl
  | true =>
    cases h2 : fit ds.length with
    | false => rfl
    | true =>
      simp only [h1, h2]
      rw [startK_ok (by rw [List.length_append, List.length_take]; simp; omega), h]
theorem disp_ok (F : Ft) : ∀ (f : Nat) (ds : List D), disp F f ds = fstep F f ds
  | 0, _ => rfl
  | 1, ds => runM_ok (me_consists_of F) rfl ds
  | 2, ds => runM_ok (me_is_line F) rfl ds
  | 3, ds => runM_ok (me_is_text F) rfl ds
  | 4, ds => runM_ok (me_with_clauses F) rfl ds
  | 5, ds => runM_ok (me_after_line F) rfl ds
  | 6, ds => runM_ok (me_after_empty_line F) rfl ds
  | 7, ds => runM_ok (me_line_begun F) rfl ds
  | 8, ds => runM_ok (me_small_begun F) rfl ds
  | 9, ds => runM_ok (me_header_begun F) rfl ds
  | 10, ds => runM_ok (me_after_word F) rfl ds
  | 11, ds => runM_ok (me_may_assign F) rfl ds
  | 12, ds => runM_ok (me_after_short F) rfl ds
  | 13, ds => runM_ok (me_after_long F) rfl ds
  | 14, ds => runM_ok (me_after_template F) rfl ds
  | 15, ds => runM_ok (me_after_operator F) rfl ds
  | 16, ds => runM_ok (me_after_word_sign F) rfl ds
  | 17, ds => runM_ok (me_after_number F) rfl ds
  | 18, ds => runM_ok (me_after_quote F) rfl ds
  | 19, ds => runM_ok (me_after_token F) rfl ds
  | 20, ds => runM_ok (me_after_operand_sign F) rfl ds
  | 21, ds => runM_ok (me_after_comma F) rfl ds
  | 22, ds => runM_ok (me_after_colon F) rfl ds
  | 23, ds => runM_ok (me_after_done_sign F) rfl ds
  | 24, ds => runM_ok (me_after_code_sign F) rfl ds
  | 25, ds => runM_ok (me_after_start_sign F) rfl ds
  | 26, ds => runM_ok (me_after_plain F) rfl ds
  | 27, ds => runM_ok (me_next_state F) rfl ds
  | 28, ds => runM_ok (me_state_behind F) rfl ds
  | 29, ds => runM_ok (me_state_of F) rfl ds
  | 30, ds => runM_ok (me_is_entry_state F) rfl ds
  | 31, ds => runM_ok (me_state_verdict F) rfl ds
  | 32, ds => runM_ok (me_is_index F) rfl ds
  | 33, ds => runM_ok (me_is_entry F) rfl ds
  | 34, ds => runM_ok (me_is_count F) rfl ds
  | 35, ds => runM_ok (me__law_mixed F) rfl ds
  | 36, ds => runM_ok (me__law_primary_end F) rfl ds
  | 37, ds => runM_ok (me__law_operand F) rfl ds
  | 38, ds => runM_ok (me__law_end_of F) rfl ds
  | 39, ds => runM_ok (me__law_behind F) rfl ds
  | 40, ds => runM_ok (me__law_ended F) rfl ds
  | 41, ds => runM_ok (me__law_begun F) rfl ds
  | 42, ds => runM_ok (me__law_step F) rfl ds
  | 43, ds => runM_ok (me__law_line_end F) rfl ds
  | 44, ds => runM_ok (me__law_is_wordy F) rfl ds
  | 45, ds => runM_ok (me__law_keywords F) rfl ds
  | 46, ds => runM_ok (me__law_can F) rfl ds
  | 47, ds => runM_ok (me__law_line_begun F) rfl ds
  | 48, ds => runM_ok (me__law_front F) rfl ds
  | 49, ds => runM_ok (me__law_code F) rfl ds
  | 50, ds => runM_ok (me__law_in_text F) rfl ds
  | 51, ds => runM_ok (me__law_after F) rfl ds
  | 52, ds => runM_ok (me__law_after_start F) rfl ds
  | 53, ds => runM_ok (me__law_run F) rfl ds
  | 54, ds => runM_ok (me__law_judged F) rfl ds
  | 55, ds => runM_ok (me__law_settled F) rfl ds
  | 56, ds => runM_ok (me_parts F) rfl ds
  | 57, ds => runM1_ok (me_in_phase F) rfl ds
  | 58, ds => runMS_ok (me_with_token F) rfl ds
  | 59, ds => runM_ok (me_opened F) rfl ds
  | 60, ds => runM_ok (me_reframed F) rfl ds
  | 61, ds => runM_ok (me_closed F) rfl ds
  | 62, ds => runM_ok (me_innermost F) rfl ds
  | 63, ds => runM_ok (me_is_prefix F) rfl ds
  | n + 64, ds => by
    have h : Nat.ble 64 (n + 64) = true := Nat.ble_eq.mpr (Nat.le_add_left _ _)
    unfold disp
    rw [h]
    rfl
theorem FM_eq : ∀ m, FM m = FF m
  | 0 => rfl
  | m + 1 => by
    funext f ds
    show disp (FM m) f ds = fstep (FF m) f ds
    rw [FM_eq m, disp_ok]
end Rp
namespace Rp
open PySem PySem.Spec PyProof.Rows L2
def lns : List (List Ch) := [
  [c120, c32, c61, c32, c49, c10],
  [c105, c102, c32, c97, c58, c10],
  [c32, c32, c98, c10],
  [c101, c108, c115, c101, c58, c10],
  [c119, c104, c105, c108, c101, c32, c120, c58, c32, c98, c114, c101, c97, c107, c10],
  [c100, c101, c102, c32, c102, c40, c97, c44, c32, c98, c41, c58, c10],
  [c32, c32, c114, c101, c116, c117, c114, c110, c32, c120, c10],
  [c32, c32, c32, c32, c112, c97, c115, c115, c10],
  [c116, c114, c121, c58, c10],
  [c101, c120, c99, c101, c112, c116, c32, c101, c58, c10],
  [c102, c105, c110, c97, c108, c108, c121, c58, c32, c121, c10],
  [c102, c40, c97, c44, c32, c98, c61, c49, c41, c91, c48, c93, c46, c99, c10],
  [c40, c120, c44, c10],
  [c32, c32, c121, c41, c10],
  [c36, c34, c97, c123, c98, c125, c99, c34, c10],
  [c39, c39, c39, c115, c10],
  [c116, c39, c39, c39, c10],
  [c120, c32, c92, c10],
  [c43, c32, c121, c10],
  [c35, c32, c99, c10],
  [c10],
  [c32, c32, c35, c32, c100, c10],
  [c102, c111, c114, c32, c105, c32, c105, c110, c32, c122, c58, c10],
  [c32, c32, c98, c114, c101, c97, c107, c10],
  [c101, c108, c105, c102, c32, c40, c49, c32, c60, c61, c32, c50, c41, c58, c10],
  [c123, c97, c58, c32, c91, c93, c44, c32, c39, c98, c39, c58, c32, c45, c99, c125, c10],
  [c32, c32, c105, c102, c32, c110, c111, c116, c32, c100, c58, c32, c101, c59, c32, c102, c10]]
def nL : List (D × D) := [
  ((.tup [(.tup []), (.tup [(.str [c102, c114, c111, c110, c116]), (.int 0), (.tup [])]), (.tup []), (.str [])]), (.tup [])),
  ((.tup [(.tup []), (.tup [(.str [c111, c118, c101, c114])]), (.tup []), (.str [])]), (.tup [])),
  ((.tup [(.tup [(.tup [(.int 0), (.str [c101, c108, c105, c102, c32, c101, c108, c115, c101]), (.bl false), (.bl false)])]), (.tup [(.str [c102, c114, c111, c110, c116]), (.int 0), (.tup [(.bl false), (.bl false)])]), (.tup []), (.str [])]), (.tup [])),
  ((.tup [(.tup [(.tup [(.int 0), (.str []), (.bl false), (.bl false)])]), (.tup [(.str [c102, c114, c111, c110, c116]), (.int 0), (.tup [])]), (.tup []), (.str [])]), (.tup [])),
  ((.tup [(.tup [(.tup [(.int 0), (.str []), (.bl false), (.bl false)])]), (.tup [(.str [c102, c114, c111, c110, c116]), (.int 0), (.tup [(.bl true), (.bl false)])]), (.tup []), (.str [])]), (.tup [])),
  ((.tup [(.tup [(.tup [(.int 0), (.str [c101, c120, c99, c101, c112, c116, c32, c102, c105, c110, c97, c108, c108, c121, c33]), (.bl false), (.bl false)])]), (.tup [(.str [c102, c114, c111, c110, c116]), (.int 0), (.tup [(.bl false), (.bl false)])]), (.tup []), (.str [])]), (.tup [])),
  ((.tup [(.tup [(.tup [(.int 0), (.str []), (.bl false), (.bl false)])]), (.tup [(.str [c108, c105, c110, c101]), (.str []), (.bl true)]), (.tup []), (.str [c108, c105, c110, c101])]), (.tup [(.str [c108, c111, c110, c103]), (.str [c39]), (.int 0), (.bl false)])),
  ((.tup [(.tup [(.tup [(.int 0), (.str []), (.bl false), (.bl false)])]), (.tup [(.str [c115, c109, c97, c108, c108]), (.str []), (.bl false), (.bl false), (.bl true)]), (.tup []), (.str [c116, c97, c114, c103, c101, c116])]), (.tup [])),
  ((.tup [(.tup [(.tup [(.int 0), (.str []), (.bl false), (.bl false)])]), (.tup [(.str [c102, c114, c111, c110, c116]), (.int 0), (.tup [(.bl false), (.bl true)])]), (.tup []), (.str [])]), (.tup [])),
  ((.tup [(.tup [(.tup [(.int 0), (.str [c101, c108, c105, c102, c32, c101, c108, c115, c101]), (.bl false), (.bl false)]), (.tup [(.int 2), (.str []), (.bl false), (.bl false)])]), (.tup [(.str [c102, c114, c111, c110, c116]), (.int 0), (.tup [])]), (.tup []), (.str [])]), (.tup [])),
  ((.tup [(.tup [(.tup [(.int 0), (.str [c101, c108, c105, c102, c32, c101, c108, c115, c101]), (.bl false), (.bl false)]), (.tup [(.int 4), (.str []), (.bl false), (.bl false)])]), (.tup [(.str [c102, c114, c111, c110, c116]), (.int 0), (.tup [])]), (.tup []), (.str [])]), (.tup [])),
  ((.tup [(.tup [(.tup [(.int 0), (.str [c101, c108, c105, c102, c32, c101, c108, c115, c101]), (.bl false), (.bl false)]), (.tup [(.int 2), (.str [c101, c108, c105, c102, c32, c101, c108, c115, c101]), (.bl false), (.bl false)])]), (.tup [(.str [c102, c114, c111, c110, c116]), (.int 0), (.tup [])]), (.tup []), (.str [])]), (.tup [])),
  ((.tup [(.tup [(.tup [(.int 0), (.str []), (.bl false), (.bl false)]), (.tup [(.int 2), (.str []), (.bl true), (.bl false)])]), (.tup [(.str [c102, c114, c111, c110, c116]), (.int 0), (.tup [])]), (.tup []), (.str [])]), (.tup [])),
  ((.tup [(.tup [(.tup [(.int 0), (.str []), (.bl false), (.bl false)]), (.tup [(.int 4), (.str []), (.bl true), (.bl false)])]), (.tup [(.str [c102, c114, c111, c110, c116]), (.int 0), (.tup [])]), (.tup []), (.str [])]), (.tup [])),
  ((.tup [(.tup [(.tup [(.int 0), (.str []), (.bl false), (.bl false)]), (.tup [(.int 2), (.str [c101, c108, c105, c102, c32, c101, c108, c115, c101]), (.bl true), (.bl false)])]), (.tup [(.str [c102, c114, c111, c110, c116]), (.int 0), (.tup [])]), (.tup []), (.str [])]), (.tup [])),
  ((.tup [(.tup [(.tup [(.int 0), (.str [c101, c120, c99, c101, c112, c116, c32, c102, c105, c110, c97, c108, c108, c121, c33]), (.bl false), (.bl false)]), (.tup [(.int 2), (.str []), (.bl false), (.bl false)])]), (.tup [(.str [c102, c114, c111, c110, c116]), (.int 0), (.tup [])]), (.tup []), (.str [])]), (.tup [])),
  ((.tup [(.tup [(.tup [(.int 0), (.str [c101, c120, c99, c101, c112, c116, c32, c102, c105, c110, c97, c108, c108, c121, c33]), (.bl false), (.bl false)]), (.tup [(.int 4), (.str []), (.bl false), (.bl false)])]), (.tup [(.str [c102, c114, c111, c110, c116]), (.int 0), (.tup [])]), (.tup []), (.str [])]), (.tup [])),
  ((.tup [(.tup [(.tup [(.int 0), (.str [c101, c120, c99, c101, c112, c116, c32, c102, c105, c110, c97, c108, c108, c121, c33]), (.bl false), (.bl false)]), (.tup [(.int 2), (.str [c101, c108, c105, c102, c32, c101, c108, c115, c101]), (.bl false), (.bl false)])]), (.tup [(.str [c102, c114, c111, c110, c116]), (.int 0), (.tup [])]), (.tup []), (.str [])]), (.tup [])),
  ((.tup [(.tup [(.tup [(.int 0), (.str []), (.bl false), (.bl false)]), (.tup [(.int 2), (.str []), (.bl false), (.bl true)])]), (.tup [(.str [c102, c114, c111, c110, c116]), (.int 0), (.tup [])]), (.tup []), (.str [])]), (.tup [])),
  ((.tup [(.tup [(.tup [(.int 0), (.str []), (.bl false), (.bl false)]), (.tup [(.int 4), (.str []), (.bl false), (.bl true)])]), (.tup [(.str [c102, c114, c111, c110, c116]), (.int 0), (.tup [])]), (.tup []), (.str [])]), (.tup [])),
  ((.tup [(.tup [(.tup [(.int 0), (.str []), (.bl false), (.bl false)]), (.tup [(.int 2), (.str [c101, c108, c105, c102, c32, c101, c108, c115, c101]), (.bl false), (.bl true)])]), (.tup [(.str [c102, c114, c111, c110, c116]), (.int 0), (.tup [])]), (.tup []), (.str [])]), (.tup [])),
  ((.tup [(.tup [(.tup [(.int 0), (.str []), (.bl false), (.bl false)])]), (.tup [(.str [c102, c114, c111, c110, c116]), (.int 0), (.tup [(.bl false), (.bl false)])]), (.tup []), (.str [])]), (.tup [])),
  ((.tup [(.tup [(.tup [(.int 0), (.str [c101, c120, c99, c101, c112, c116, c32, c102, c105, c110, c97, c108, c108, c121]), (.bl false), (.bl false)])]), (.tup [(.str [c102, c114, c111, c110, c116]), (.int 0), (.tup [(.bl false), (.bl false)])]), (.tup []), (.str [])]), (.tup [])),
  ((.tup [(.tup [(.tup [(.int 0), (.str []), (.bl false), (.bl false)]), (.tup [(.int 2), (.str []), (.bl false), (.bl false)])]), (.tup [(.str [c102, c114, c111, c110, c116]), (.int 0), (.tup [])]), (.tup []), (.str [])]), (.tup [])),
  ((.tup [(.tup [(.tup [(.int 0), (.str []), (.bl false), (.bl false)]), (.tup [(.int 4), (.str []), (.bl false), (.bl false)])]), (.tup [(.str [c102, c114, c111, c110, c116]), (.int 0), (.tup [])]), (.tup []), (.str [])]), (.tup [])),
  ((.tup [(.tup [(.tup [(.int 0), (.str []), (.bl false), (.bl false)]), (.tup [(.int 2), (.str [c101, c108, c105, c102, c32, c101, c108, c115, c101]), (.bl false), (.bl false)])]), (.tup [(.str [c102, c114, c111, c110, c116]), (.int 0), (.tup [])]), (.tup []), (.str [])]), (.tup [])),
  ((.tup [(.tup [(.tup [(.int 0), (.str [c101, c120, c99, c101, c112, c116, c32, c102, c105, c110, c97, c108, c108, c121]), (.bl false), (.bl false)]), (.tup [(.int 2), (.str []), (.bl false), (.bl false)])]), (.tup [(.str [c102, c114, c111, c110, c116]), (.int 0), (.tup [])]), (.tup []), (.str [])]), (.tup [])),
  ((.tup [(.tup [(.tup [(.int 0), (.str [c101, c120, c99, c101, c112, c116, c32, c102, c105, c110, c97, c108, c108, c121]), (.bl false), (.bl false)]), (.tup [(.int 4), (.str []), (.bl false), (.bl false)])]), (.tup [(.str [c102, c114, c111, c110, c116]), (.int 0), (.tup [])]), (.tup []), (.str [])]), (.tup [])),
  ((.tup [(.tup [(.tup [(.int 0), (.str [c101, c120, c99, c101, c112, c116, c32, c102, c105, c110, c97, c108, c108, c121]), (.bl false), (.bl false)]), (.tup [(.int 2), (.str [c101, c108, c105, c102, c32, c101, c108, c115, c101]), (.bl false), (.bl false)])]), (.tup [(.str [c102, c114, c111, c110, c116]), (.int 0), (.tup [])]), (.tup []), (.str [])]), (.tup []))]
def frL1 (bot : Bool) (k : Bool) : D := .tup [.str (cond k [c103, c114, c111, c117, c112] [c99, c97, c108, c108]), .str (cond bot [c99, c104, c97, c105, c110] [c100, c111, c110, c101])]
def waB : Nat → D × D
  | 0 => ((.str [c99, c108, c111, c115, c101]), (.tup []))
  | 1 => ((.str [c100, c111, c110, c101]), (.tup []))
  | 2 => ((.str [c99, c108, c111, c115, c101]), (.tup [(.str [c108, c111, c110, c103]), (.str [c39]), (.int 0), (.bl false)]))
  | 3 => ((.str [c97, c114, c103, c117, c109, c101, c110, c116]), (.tup []))
  | 4 => ((.str [c115, c101, c97, c108, c101, c100]), (.tup []))
  | 5 => ((.str [c110, c97, c109, c101, c100]), (.tup []))
  | 6 => ((.str [c100, c111, c110, c101]), (.tup []))
  | _ => ((.str [c97, c114, c103, c117, c109, c101, c110, c116]), (.tup [(.str [c108, c111, c110, c103]), (.str [c39]), (.int 0), (.bl false)]))
def bL (fs : List D) (t : Nat) : D × D := (.tup [lvB, goB, .tup fs, (waB t).1], (waB t).2)
/-- behind a closed bracket -/
def popP (fs : List D) : D := .ins 0 [lvB, goB, .tup fs, .str [c97, c102, c116, c101, c114], .tup []]
def popL (fs : List D) : D × D := (.tup [lvB, goB, .tup fs, .str [c100, c111, c110, c101]], .tup [])
def runP (n : Nat) : D → List Ch → Nat → Option D × Nat
  | st, [], k => (some st, k)
  | st, c :: cs, k => match FM (n + 15) 27 [st, .str [c]] with
    | some .non => (none, k)
    | some s => runP n s cs (k + 1)
    | none => (none, 9999)
def runL (n : Nat) : D × D → List Ch → Nat → Option (D × D) × Nat
  | st, [], k => (some st, k)
  | st, c :: cs, k => match FM (n + 15) 51 [st.1, st.2, .str [c]] with
    | some .non => (none, k)
    | some (.tup [a, b]) => runL n (a, b) cs (k + 1)
    | _ => (none, 9999)
/-- the frames behind: xs below the innermost -/
def outP (xs : List D) (bot : Bool) (t : Nat) (l : List Ch) : LO → Option D × Nat
  | .err c => (none, c)
  | .n i => (some (nth .non nP i), len l)
  | .b t' => (some (bP [frP1 true (kOf t')] t'), len l)
  | .stay t' => (some (bP (xs ++ [frP1 bot (kOf t')]) t'), len l)
  | .push t' => (some (bP (xs ++ [frP1 bot (kOf t), frP1 false (kOf t')]) t'), len l)
  | .pop => (some (popP xs), len l)
def outL (xs : List D) (bot : Bool) (t : Nat) (l : List Ch) : LO → Option (D × D) × Nat
  | .err c => (none, c)
  | .n i => (some (nth (.non, .non) nL i), len l)
  | .b t' => (some (bL [frL1 true (kOf t')] t'), len l)
  | .stay t' => (some (bL (xs ++ [frL1 bot (kOf t')]) t'), len l)
  | .push t' => (some (bL (xs ++ [frL1 bot (kOf t), frL1 false (kOf t')]) t'), len l)
  | .pop => (some (popL xs), len l)
def zipW {α β γ : Type} (f : α → β → γ) : List α → List β → List γ
  | a :: as, b :: bs => f a b :: zipW f as bs
  | _, _ => []
/-- every line from one state -/
def allP (n : Nat) (st : D) : List (Option D × Nat) := lns.map fun l => runP n st l 0
def allL (n : Nat) (st : D × D) : List (Option (D × D) × Nat) := lns.map fun l => runL n st l 0
end Rp
namespace Rp
open PySem PySem.Spec PyProof.Rows L2
theorem nP_0 (n : Nat) : allP n (nth .non nP 0) = zipW (outP [] true 0) lns (nth [] tN 0) := by kernel_rfl
theorem nL_0 (n : Nat) : allL n (nth (.non, .non) nL 0) = zipW (outL [] true 0) lns (nth [] tN 0) := by kernel_rfl
theorem nP_1 (n : Nat) : allP n (nth .non nP 1) = zipW (outP [] true 0) lns (nth [] tN 1) := by kernel_rfl
theorem nL_1 (n : Nat) : allL n (nth (.non, .non) nL 1) = zipW (outL [] true 0) lns (nth [] tN 1) := by kernel_rfl
theorem nP_2 (n : Nat) : allP n (nth .non nP 2) = zipW (outP [] true 0) lns (nth [] tN 2) := by kernel_rfl
theorem nL_2 (n : Nat) : allL n (nth (.non, .non) nL 2) = zipW (outL [] true 0) lns (nth [] tN 2) := by kernel_rfl
theorem nP_3 (n : Nat) : allP n (nth .non nP 3) = zipW (outP [] true 0) lns (nth [] tN 3) := by kernel_rfl
theorem nL_3 (n : Nat) : allL n (nth (.non, .non) nL 3) = zipW (outL [] true 0) lns (nth [] tN 3) := by kernel_rfl
theorem nP_4 (n : Nat) : allP n (nth .non nP 4) = zipW (outP [] true 0) lns (nth [] tN 4) := by kernel_rfl
theorem nL_4 (n : Nat) : allL n (nth (.non, .non) nL 4) = zipW (outL [] true 0) lns (nth [] tN 4) := by kernel_rfl
theorem nP_5 (n : Nat) : allP n (nth .non nP 5) = zipW (outP [] true 0) lns (nth [] tN 5) := by kernel_rfl
theorem nL_5 (n : Nat) : allL n (nth (.non, .non) nL 5) = zipW (outL [] true 0) lns (nth [] tN 5) := by kernel_rfl
theorem nP_6 (n : Nat) : allP n (nth .non nP 6) = zipW (outP [] true 0) lns (nth [] tN 6) := by kernel_rfl
theorem nL_6 (n : Nat) : allL n (nth (.non, .non) nL 6) = zipW (outL [] true 0) lns (nth [] tN 6) := by kernel_rfl
theorem nP_7 (n : Nat) : allP n (nth .non nP 7) = zipW (outP [] true 0) lns (nth [] tN 7) := by kernel_rfl
theorem nL_7 (n : Nat) : allL n (nth (.non, .non) nL 7) = zipW (outL [] true 0) lns (nth [] tN 7) := by kernel_rfl
theorem nP_8 (n : Nat) : allP n (nth .non nP 8) = zipW (outP [] true 0) lns (nth [] tN 8) := by kernel_rfl
theorem nL_8 (n : Nat) : allL n (nth (.non, .non) nL 8) = zipW (outL [] true 0) lns (nth [] tN 8) := by kernel_rfl
theorem nP_9 (n : Nat) : allP n (nth .non nP 9) = zipW (outP [] true 0) lns (nth [] tN 9) := by kernel_rfl
theorem nL_9 (n : Nat) : allL n (nth (.non, .non) nL 9) = zipW (outL [] true 0) lns (nth [] tN 9) := by kernel_rfl
theorem nP_10 (n : Nat) : allP n (nth .non nP 10) = zipW (outP [] true 0) lns (nth [] tN 10) := by kernel_rfl
theorem nL_10 (n : Nat) : allL n (nth (.non, .non) nL 10) = zipW (outL [] true 0) lns (nth [] tN 10) := by kernel_rfl
theorem nP_11 (n : Nat) : allP n (nth .non nP 11) = zipW (outP [] true 0) lns (nth [] tN 11) := by kernel_rfl
theorem nL_11 (n : Nat) : allL n (nth (.non, .non) nL 11) = zipW (outL [] true 0) lns (nth [] tN 11) := by kernel_rfl
theorem nP_12 (n : Nat) : allP n (nth .non nP 12) = zipW (outP [] true 0) lns (nth [] tN 12) := by kernel_rfl
theorem nL_12 (n : Nat) : allL n (nth (.non, .non) nL 12) = zipW (outL [] true 0) lns (nth [] tN 12) := by kernel_rfl
theorem nP_13 (n : Nat) : allP n (nth .non nP 13) = zipW (outP [] true 0) lns (nth [] tN 13) := by kernel_rfl
theorem nL_13 (n : Nat) : allL n (nth (.non, .non) nL 13) = zipW (outL [] true 0) lns (nth [] tN 13) := by kernel_rfl
theorem nP_14 (n : Nat) : allP n (nth .non nP 14) = zipW (outP [] true 0) lns (nth [] tN 14) := by kernel_rfl
theorem nL_14 (n : Nat) : allL n (nth (.non, .non) nL 14) = zipW (outL [] true 0) lns (nth [] tN 14) := by kernel_rfl
theorem nP_15 (n : Nat) : allP n (nth .non nP 15) = zipW (outP [] true 0) lns (nth [] tN 15) := by kernel_rfl
theorem nL_15 (n : Nat) : allL n (nth (.non, .non) nL 15) = zipW (outL [] true 0) lns (nth [] tN 15) := by kernel_rfl
theorem nP_16 (n : Nat) : allP n (nth .non nP 16) = zipW (outP [] true 0) lns (nth [] tN 16) := by kernel_rfl
theorem nL_16 (n : Nat) : allL n (nth (.non, .non) nL 16) = zipW (outL [] true 0) lns (nth [] tN 16) := by kernel_rfl
theorem nP_17 (n : Nat) : allP n (nth .non nP 17) = zipW (outP [] true 0) lns (nth [] tN 17) := by kernel_rfl
theorem nL_17 (n : Nat) : allL n (nth (.non, .non) nL 17) = zipW (outL [] true 0) lns (nth [] tN 17) := by kernel_rfl
theorem nP_18 (n : Nat) : allP n (nth .non nP 18) = zipW (outP [] true 0) lns (nth [] tN 18) := by kernel_rfl
theorem nL_18 (n : Nat) : allL n (nth (.non, .non) nL 18) = zipW (outL [] true 0) lns (nth [] tN 18) := by kernel_rfl
theorem nP_19 (n : Nat) : allP n (nth .non nP 19) = zipW (outP [] true 0) lns (nth [] tN 19) := by kernel_rfl
theorem nL_19 (n : Nat) : allL n (nth (.non, .non) nL 19) = zipW (outL [] true 0) lns (nth [] tN 19) := by kernel_rfl
theorem nP_20 (n : Nat) : allP n (nth .non nP 20) = zipW (outP [] true 0) lns (nth [] tN 20) := by kernel_rfl
theorem nL_20 (n : Nat) : allL n (nth (.non, .non) nL 20) = zipW (outL [] true 0) lns (nth [] tN 20) := by kernel_rfl
theorem nP_21 (n : Nat) : allP n (nth .non nP 21) = zipW (outP [] true 0) lns (nth [] tN 21) := by kernel_rfl
theorem nL_21 (n : Nat) : allL n (nth (.non, .non) nL 21) = zipW (outL [] true 0) lns (nth [] tN 21) := by kernel_rfl
theorem nP_22 (n : Nat) : allP n (nth .non nP 22) = zipW (outP [] true 0) lns (nth [] tN 22) := by kernel_rfl
theorem nL_22 (n : Nat) : allL n (nth (.non, .non) nL 22) = zipW (outL [] true 0) lns (nth [] tN 22) := by kernel_rfl
theorem nP_23 (n : Nat) : allP n (nth .non nP 23) = zipW (outP [] true 0) lns (nth [] tN 23) := by kernel_rfl
theorem nL_23 (n : Nat) : allL n (nth (.non, .non) nL 23) = zipW (outL [] true 0) lns (nth [] tN 23) := by kernel_rfl
theorem nP_24 (n : Nat) : allP n (nth .non nP 24) = zipW (outP [] true 0) lns (nth [] tN 24) := by kernel_rfl
theorem nL_24 (n : Nat) : allL n (nth (.non, .non) nL 24) = zipW (outL [] true 0) lns (nth [] tN 24) := by kernel_rfl
theorem nP_25 (n : Nat) : allP n (nth .non nP 25) = zipW (outP [] true 0) lns (nth [] tN 25) := by kernel_rfl
theorem nL_25 (n : Nat) : allL n (nth (.non, .non) nL 25) = zipW (outL [] true 0) lns (nth [] tN 25) := by kernel_rfl
theorem nP_26 (n : Nat) : allP n (nth .non nP 26) = zipW (outP [] true 0) lns (nth [] tN 26) := by kernel_rfl
theorem nL_26 (n : Nat) : allL n (nth (.non, .non) nL 26) = zipW (outL [] true 0) lns (nth [] tN 26) := by kernel_rfl
theorem nP_27 (n : Nat) : allP n (nth .non nP 27) = zipW (outP [] true 0) lns (nth [] tN 27) := by kernel_rfl
theorem nL_27 (n : Nat) : allL n (nth (.non, .non) nL 27) = zipW (outL [] true 0) lns (nth [] tN 27) := by kernel_rfl
theorem nP_28 (n : Nat) : allP n (nth .non nP 28) = zipW (outP [] true 0) lns (nth [] tN 28) := by kernel_rfl
theorem nL_28 (n : Nat) : allL n (nth (.non, .non) nL 28) = zipW (outL [] true 0) lns (nth [] tN 28) := by kernel_rfl
end Rp
namespace Rp
open PySem PySem.Spec PyProof.Rows L2
theorem bP_0_0 (n : Nat) : allP n (bP [frP1 true true] 0) = zipW (outP [] true 0) lns (nth [] tB1 0) := by kernel_rfl
theorem bL_0_0 (n : Nat) : allL n (bL [frL1 true true] 0) = zipW (outL [] true 0) lns (nth [] tB1 0) := by kernel_rfl
theorem bP_0_1 (n : Nat) : allP n (bP [frP1 true true] 1) = zipW (outP [] true 1) lns (nth [] tB1 1) := by kernel_rfl
theorem bL_0_1 (n : Nat) : allL n (bL [frL1 true true] 1) = zipW (outL [] true 1) lns (nth [] tB1 1) := by kernel_rfl
theorem bP_0_2 (n : Nat) : allP n (bP [frP1 true true] 2) = zipW (outP [] true 2) lns (nth [] tB1 2) := by kernel_rfl
theorem bL_0_2 (n : Nat) : allL n (bL [frL1 true true] 2) = zipW (outL [] true 2) lns (nth [] tB1 2) := by kernel_rfl
theorem bP_0_3 (n : Nat) : allP n (bP [frP1 true false] 3) = zipW (outP [] true 3) lns (nth [] tB1 3) := by kernel_rfl
theorem bL_0_3 (n : Nat) : allL n (bL [frL1 true false] 3) = zipW (outL [] true 3) lns (nth [] tB1 3) := by kernel_rfl
theorem bP_0_4 (n : Nat) : allP n (bP [frP1 true false] 4) = zipW (outP [] true 4) lns (nth [] tB1 4) := by kernel_rfl
theorem bL_0_4 (n : Nat) : allL n (bL [frL1 true false] 4) = zipW (outL [] true 4) lns (nth [] tB1 4) := by kernel_rfl
theorem bP_0_5 (n : Nat) : allP n (bP [frP1 true false] 5) = zipW (outP [] true 5) lns (nth [] tB1 5) := by kernel_rfl
theorem bL_0_5 (n : Nat) : allL n (bL [frL1 true false] 5) = zipW (outL [] true 5) lns (nth [] tB1 5) := by kernel_rfl
theorem bP_0_6 (n : Nat) : allP n (bP [frP1 true false] 6) = zipW (outP [] true 6) lns (nth [] tB1 6) := by kernel_rfl
theorem bL_0_6 (n : Nat) : allL n (bL [frL1 true false] 6) = zipW (outL [] true 6) lns (nth [] tB1 6) := by kernel_rfl
theorem bP_0_7 (n : Nat) : allP n (bP [frP1 true false] 7) = zipW (outP [] true 7) lns (nth [] tB1 7) := by kernel_rfl
theorem bL_0_7 (n : Nat) : allL n (bL [frL1 true false] 7) = zipW (outL [] true 7) lns (nth [] tB1 7) := by kernel_rfl
end Rp
namespace Rp
open PySem PySem.Spec PyProof.Rows L2
theorem bP_1_0 (n : Nat) (x0 : D) : allP n (bP [x0, frP1 false true] 0) = zipW (outP [x0] false 0) lns (nth [] tB2 0) := by kernel_rfl
theorem bL_1_0 (n : Nat) (x0 : D) : allL n (bL [x0, frL1 false true] 0) = zipW (outL [x0] false 0) lns (nth [] tB2 0) := by kernel_rfl
theorem bP_1_1 (n : Nat) (x0 : D) : allP n (bP [x0, frP1 false true] 1) = zipW (outP [x0] false 1) lns (nth [] tB2 1) := by kernel_rfl
theorem bL_1_1 (n : Nat) (x0 : D) : allL n (bL [x0, frL1 false true] 1) = zipW (outL [x0] false 1) lns (nth [] tB2 1) := by kernel_rfl
theorem bP_1_2 (n : Nat) (x0 : D) : allP n (bP [x0, frP1 false true] 2) = zipW (outP [x0] false 2) lns (nth [] tB2 2) := by kernel_rfl
theorem bL_1_2 (n : Nat) (x0 : D) : allL n (bL [x0, frL1 false true] 2) = zipW (outL [x0] false 2) lns (nth [] tB2 2) := by kernel_rfl
theorem bP_1_3 (n : Nat) (x0 : D) : allP n (bP [x0, frP1 false false] 3) = zipW (outP [x0] false 3) lns (nth [] tB2 3) := by kernel_rfl
theorem bL_1_3 (n : Nat) (x0 : D) : allL n (bL [x0, frL1 false false] 3) = zipW (outL [x0] false 3) lns (nth [] tB2 3) := by kernel_rfl
theorem bP_1_4 (n : Nat) (x0 : D) : allP n (bP [x0, frP1 false false] 4) = zipW (outP [x0] false 4) lns (nth [] tB2 4) := by kernel_rfl
theorem bL_1_4 (n : Nat) (x0 : D) : allL n (bL [x0, frL1 false false] 4) = zipW (outL [x0] false 4) lns (nth [] tB2 4) := by kernel_rfl
theorem bP_1_5 (n : Nat) (x0 : D) : allP n (bP [x0, frP1 false false] 5) = zipW (outP [x0] false 5) lns (nth [] tB2 5) := by kernel_rfl
theorem bL_1_5 (n : Nat) (x0 : D) : allL n (bL [x0, frL1 false false] 5) = zipW (outL [x0] false 5) lns (nth [] tB2 5) := by kernel_rfl
theorem bP_1_6 (n : Nat) (x0 : D) : allP n (bP [x0, frP1 false false] 6) = zipW (outP [x0] false 6) lns (nth [] tB2 6) := by kernel_rfl
theorem bL_1_6 (n : Nat) (x0 : D) : allL n (bL [x0, frL1 false false] 6) = zipW (outL [x0] false 6) lns (nth [] tB2 6) := by kernel_rfl
theorem bP_1_7 (n : Nat) (x0 : D) : allP n (bP [x0, frP1 false false] 7) = zipW (outP [x0] false 7) lns (nth [] tB2 7) := by kernel_rfl
theorem bL_1_7 (n : Nat) (x0 : D) : allL n (bL [x0, frL1 false false] 7) = zipW (outL [x0] false 7) lns (nth [] tB2 7) := by kernel_rfl
end Rp
namespace Rp
open PySem PySem.Spec PyProof.Rows L2
theorem bP_2_0 (n : Nat) (x0 x1 : D) : allP n (bP [x0, x1, frP1 false true] 0) = zipW (outP [x0, x1] false 0) lns (nth [] tB2 0) := by kernel_rfl
theorem bL_2_0 (n : Nat) (x0 x1 : D) : allL n (bL [x0, x1, frL1 false true] 0) = zipW (outL [x0, x1] false 0) lns (nth [] tB2 0) := by kernel_rfl
theorem bP_2_1 (n : Nat) (x0 x1 : D) : allP n (bP [x0, x1, frP1 false true] 1) = zipW (outP [x0, x1] false 1) lns (nth [] tB2 1) := by kernel_rfl
theorem bL_2_1 (n : Nat) (x0 x1 : D) : allL n (bL [x0, x1, frL1 false true] 1) = zipW (outL [x0, x1] false 1) lns (nth [] tB2 1) := by kernel_rfl
theorem bP_2_2 (n : Nat) (x0 x1 : D) : allP n (bP [x0, x1, frP1 false true] 2) = zipW (outP [x0, x1] false 2) lns (nth [] tB2 2) := by kernel_rfl
theorem bL_2_2 (n : Nat) (x0 x1 : D) : allL n (bL [x0, x1, frL1 false true] 2) = zipW (outL [x0, x1] false 2) lns (nth [] tB2 2) := by kernel_rfl
theorem bP_2_3 (n : Nat) (x0 x1 : D) : allP n (bP [x0, x1, frP1 false false] 3) = zipW (outP [x0, x1] false 3) lns (nth [] tB2 3) := by kernel_rfl
theorem bL_2_3 (n : Nat) (x0 x1 : D) : allL n (bL [x0, x1, frL1 false false] 3) = zipW (outL [x0, x1] false 3) lns (nth [] tB2 3) := by kernel_rfl
theorem bP_2_4 (n : Nat) (x0 x1 : D) : allP n (bP [x0, x1, frP1 false false] 4) = zipW (outP [x0, x1] false 4) lns (nth [] tB2 4) := by kernel_rfl
theorem bL_2_4 (n : Nat) (x0 x1 : D) : allL n (bL [x0, x1, frL1 false false] 4) = zipW (outL [x0, x1] false 4) lns (nth [] tB2 4) := by kernel_rfl
theorem bP_2_5 (n : Nat) (x0 x1 : D) : allP n (bP [x0, x1, frP1 false false] 5) = zipW (outP [x0, x1] false 5) lns (nth [] tB2 5) := by kernel_rfl
theorem bL_2_5 (n : Nat) (x0 x1 : D) : allL n (bL [x0, x1, frL1 false false] 5) = zipW (outL [x0, x1] false 5) lns (nth [] tB2 5) := by kernel_rfl
theorem bP_2_6 (n : Nat) (x0 x1 : D) : allP n (bP [x0, x1, frP1 false false] 6) = zipW (outP [x0, x1] false 6) lns (nth [] tB2 6) := by kernel_rfl
theorem bL_2_6 (n : Nat) (x0 x1 : D) : allL n (bL [x0, x1, frL1 false false] 6) = zipW (outL [x0, x1] false 6) lns (nth [] tB2 6) := by kernel_rfl
theorem bP_2_7 (n : Nat) (x0 x1 : D) : allP n (bP [x0, x1, frP1 false false] 7) = zipW (outP [x0, x1] false 7) lns (nth [] tB2 7) := by kernel_rfl
theorem bL_2_7 (n : Nat) (x0 x1 : D) : allL n (bL [x0, x1, frL1 false false] 7) = zipW (outL [x0, x1] false 7) lns (nth [] tB2 7) := by kernel_rfl
end Rp
namespace Rp
open PySem PySem.Spec PyProof.Rows L2
theorem bP_3_0 (n : Nat) (x0 x1 x2 : D) : allP n (bP [x0, x1, x2, frP1 false true] 0) = zipW (outP [x0, x1, x2] false 0) lns (nth [] tB2 0) := by kernel_rfl
theorem bL_3_0 (n : Nat) (x0 x1 x2 : D) : allL n (bL [x0, x1, x2, frL1 false true] 0) = zipW (outL [x0, x1, x2] false 0) lns (nth [] tB2 0) := by kernel_rfl
theorem bP_3_1 (n : Nat) (x0 x1 x2 : D) : allP n (bP [x0, x1, x2, frP1 false true] 1) = zipW (outP [x0, x1, x2] false 1) lns (nth [] tB2 1) := by kernel_rfl
theorem bL_3_1 (n : Nat) (x0 x1 x2 : D) : allL n (bL [x0, x1, x2, frL1 false true] 1) = zipW (outL [x0, x1, x2] false 1) lns (nth [] tB2 1) := by kernel_rfl
theorem bP_3_2 (n : Nat) (x0 x1 x2 : D) : allP n (bP [x0, x1, x2, frP1 false true] 2) = zipW (outP [x0, x1, x2] false 2) lns (nth [] tB2 2) := by kernel_rfl
theorem bL_3_2 (n : Nat) (x0 x1 x2 : D) : allL n (bL [x0, x1, x2, frL1 false true] 2) = zipW (outL [x0, x1, x2] false 2) lns (nth [] tB2 2) := by kernel_rfl
theorem bP_3_3 (n : Nat) (x0 x1 x2 : D) : allP n (bP [x0, x1, x2, frP1 false false] 3) = zipW (outP [x0, x1, x2] false 3) lns (nth [] tB2 3) := by kernel_rfl
theorem bL_3_3 (n : Nat) (x0 x1 x2 : D) : allL n (bL [x0, x1, x2, frL1 false false] 3) = zipW (outL [x0, x1, x2] false 3) lns (nth [] tB2 3) := by kernel_rfl
theorem bP_3_4 (n : Nat) (x0 x1 x2 : D) : allP n (bP [x0, x1, x2, frP1 false false] 4) = zipW (outP [x0, x1, x2] false 4) lns (nth [] tB2 4) := by kernel_rfl
theorem bL_3_4 (n : Nat) (x0 x1 x2 : D) : allL n (bL [x0, x1, x2, frL1 false false] 4) = zipW (outL [x0, x1, x2] false 4) lns (nth [] tB2 4) := by kernel_rfl
theorem bP_3_5 (n : Nat) (x0 x1 x2 : D) : allP n (bP [x0, x1, x2, frP1 false false] 5) = zipW (outP [x0, x1, x2] false 5) lns (nth [] tB2 5) := by kernel_rfl
theorem bL_3_5 (n : Nat) (x0 x1 x2 : D) : allL n (bL [x0, x1, x2, frL1 false false] 5) = zipW (outL [x0, x1, x2] false 5) lns (nth [] tB2 5) := by kernel_rfl
theorem bP_3_6 (n : Nat) (x0 x1 x2 : D) : allP n (bP [x0, x1, x2, frP1 false false] 6) = zipW (outP [x0, x1, x2] false 6) lns (nth [] tB2 6) := by kernel_rfl
theorem bL_3_6 (n : Nat) (x0 x1 x2 : D) : allL n (bL [x0, x1, x2, frL1 false false] 6) = zipW (outL [x0, x1, x2] false 6) lns (nth [] tB2 6) := by kernel_rfl
theorem bP_3_7 (n : Nat) (x0 x1 x2 : D) : allP n (bP [x0, x1, x2, frP1 false false] 7) = zipW (outP [x0, x1, x2] false 7) lns (nth [] tB2 7) := by kernel_rfl
theorem bL_3_7 (n : Nat) (x0 x1 x2 : D) : allL n (bL [x0, x1, x2, frL1 false false] 7) = zipW (outL [x0, x1, x2] false 7) lns (nth [] tB2 7) := by kernel_rfl
end Rp
namespace Rp
open PySem PySem.Spec PyProof.Rows L2
theorem bP_4_0 (n : Nat) (x0 x1 x2 x3 : D) : allP n (bP [x0, x1, x2, x3, frP1 false true] 0) = zipW (outP [x0, x1, x2, x3] false 0) lns (nth [] tB2 0) := by kernel_rfl
theorem bL_4_0 (n : Nat) (x0 x1 x2 x3 : D) : allL n (bL [x0, x1, x2, x3, frL1 false true] 0) = zipW (outL [x0, x1, x2, x3] false 0) lns (nth [] tB2 0) := by kernel_rfl
theorem bP_4_1 (n : Nat) (x0 x1 x2 x3 : D) : allP n (bP [x0, x1, x2, x3, frP1 false true] 1) = zipW (outP [x0, x1, x2, x3] false 1) lns (nth [] tB2 1) := by kernel_rfl
theorem bL_4_1 (n : Nat) (x0 x1 x2 x3 : D) : allL n (bL [x0, x1, x2, x3, frL1 false true] 1) = zipW (outL [x0, x1, x2, x3] false 1) lns (nth [] tB2 1) := by kernel_rfl
theorem bP_4_2 (n : Nat) (x0 x1 x2 x3 : D) : allP n (bP [x0, x1, x2, x3, frP1 false true] 2) = zipW (outP [x0, x1, x2, x3] false 2) lns (nth [] tB2 2) := by kernel_rfl
theorem bL_4_2 (n : Nat) (x0 x1 x2 x3 : D) : allL n (bL [x0, x1, x2, x3, frL1 false true] 2) = zipW (outL [x0, x1, x2, x3] false 2) lns (nth [] tB2 2) := by kernel_rfl
theorem bP_4_3 (n : Nat) (x0 x1 x2 x3 : D) : allP n (bP [x0, x1, x2, x3, frP1 false false] 3) = zipW (outP [x0, x1, x2, x3] false 3) lns (nth [] tB2 3) := by kernel_rfl
theorem bL_4_3 (n : Nat) (x0 x1 x2 x3 : D) : allL n (bL [x0, x1, x2, x3, frL1 false false] 3) = zipW (outL [x0, x1, x2, x3] false 3) lns (nth [] tB2 3) := by kernel_rfl
theorem bP_4_4 (n : Nat) (x0 x1 x2 x3 : D) : allP n (bP [x0, x1, x2, x3, frP1 false false] 4) = zipW (outP [x0, x1, x2, x3] false 4) lns (nth [] tB2 4) := by kernel_rfl
theorem bL_4_4 (n : Nat) (x0 x1 x2 x3 : D) : allL n (bL [x0, x1, x2, x3, frL1 false false] 4) = zipW (outL [x0, x1, x2, x3] false 4) lns (nth [] tB2 4) := by kernel_rfl
theorem bP_4_5 (n : Nat) (x0 x1 x2 x3 : D) : allP n (bP [x0, x1, x2, x3, frP1 false false] 5) = zipW (outP [x0, x1, x2, x3] false 5) lns (nth [] tB2 5) := by kernel_rfl
theorem bL_4_5 (n : Nat) (x0 x1 x2 x3 : D) : allL n (bL [x0, x1, x2, x3, frL1 false false] 5) = zipW (outL [x0, x1, x2, x3] false 5) lns (nth [] tB2 5) := by kernel_rfl
theorem bP_4_6 (n : Nat) (x0 x1 x2 x3 : D) : allP n (bP [x0, x1, x2, x3, frP1 false false] 6) = zipW (outP [x0, x1, x2, x3] false 6) lns (nth [] tB2 6) := by kernel_rfl
theorem bL_4_6 (n : Nat) (x0 x1 x2 x3 : D) : allL n (bL [x0, x1, x2, x3, frL1 false false] 6) = zipW (outL [x0, x1, x2, x3] false 6) lns (nth [] tB2 6) := by kernel_rfl
theorem bP_4_7 (n : Nat) (x0 x1 x2 x3 : D) : allP n (bP [x0, x1, x2, x3, frP1 false false] 7) = zipW (outP [x0, x1, x2, x3] false 7) lns (nth [] tB2 7) := by kernel_rfl
theorem bL_4_7 (n : Nat) (x0 x1 x2 x3 : D) : allL n (bL [x0, x1, x2, x3, frL1 false false] 7) = zipW (outL [x0, x1, x2, x3] false 7) lns (nth [] tB2 7) := by kernel_rfl
end Rp
namespace Rp
open PySem PySem.Spec PyProof.Rows L2
theorem bP_5_0 (n : Nat) (x0 x1 x2 x3 x4 : D) : allP n (bP [x0, x1, x2, x3, x4, frP1 false true] 0) = zipW (outP [x0, x1, x2, x3, x4] false 0) lns (nth [] tB2 0) := by kernel_rfl
theorem bL_5_0 (n : Nat) (x0 x1 x2 x3 x4 : D) : allL n (bL [x0, x1, x2, x3, x4, frL1 false true] 0) = zipW (outL [x0, x1, x2, x3, x4] false 0) lns (nth [] tB2 0) := by kernel_rfl
theorem bP_5_1 (n : Nat) (x0 x1 x2 x3 x4 : D) : allP n (bP [x0, x1, x2, x3, x4, frP1 false true] 1) = zipW (outP [x0, x1, x2, x3, x4] false 1) lns (nth [] tB2 1) := by kernel_rfl
theorem bL_5_1 (n : Nat) (x0 x1 x2 x3 x4 : D) : allL n (bL [x0, x1, x2, x3, x4, frL1 false true] 1) = zipW (outL [x0, x1, x2, x3, x4] false 1) lns (nth [] tB2 1) := by kernel_rfl
theorem bP_5_2 (n : Nat) (x0 x1 x2 x3 x4 : D) : allP n (bP [x0, x1, x2, x3, x4, frP1 false true] 2) = zipW (outP [x0, x1, x2, x3, x4] false 2) lns (nth [] tB2 2) := by kernel_rfl
theorem bL_5_2 (n : Nat) (x0 x1 x2 x3 x4 : D) : allL n (bL [x0, x1, x2, x3, x4, frL1 false true] 2) = zipW (outL [x0, x1, x2, x3, x4] false 2) lns (nth [] tB2 2) := by kernel_rfl
theorem bP_5_3 (n : Nat) (x0 x1 x2 x3 x4 : D) : allP n (bP [x0, x1, x2, x3, x4, frP1 false false] 3) = zipW (outP [x0, x1, x2, x3, x4] false 3) lns (nth [] tB2 3) := by kernel_rfl
theorem bL_5_3 (n : Nat) (x0 x1 x2 x3 x4 : D) : allL n (bL [x0, x1, x2, x3, x4, frL1 false false] 3) = zipW (outL [x0, x1, x2, x3, x4] false 3) lns (nth [] tB2 3) := by kernel_rfl
theorem bP_5_4 (n : Nat) (x0 x1 x2 x3 x4 : D) : allP n (bP [x0, x1, x2, x3, x4, frP1 false false] 4) = zipW (outP [x0, x1, x2, x3, x4] false 4) lns (nth [] tB2 4) := by kernel_rfl
theorem bL_5_4 (n : Nat) (x0 x1 x2 x3 x4 : D) : allL n (bL [x0, x1, x2, x3, x4, frL1 false false] 4) = zipW (outL [x0, x1, x2, x3, x4] false 4) lns (nth [] tB2 4) := by kernel_rfl
theorem bP_5_5 (n : Nat) (x0 x1 x2 x3 x4 : D) : allP n (bP [x0, x1, x2, x3, x4, frP1 false false] 5) = zipW (outP [x0, x1, x2, x3, x4] false 5) lns (nth [] tB2 5) := by kernel_rfl
theorem bL_5_5 (n : Nat) (x0 x1 x2 x3 x4 : D) : allL n (bL [x0, x1, x2, x3, x4, frL1 false false] 5) = zipW (outL [x0, x1, x2, x3, x4] false 5) lns (nth [] tB2 5) := by kernel_rfl
theorem bP_5_6 (n : Nat) (x0 x1 x2 x3 x4 : D) : allP n (bP [x0, x1, x2, x3, x4, frP1 false false] 6) = zipW (outP [x0, x1, x2, x3, x4] false 6) lns (nth [] tB2 6) := by kernel_rfl
theorem bL_5_6 (n : Nat) (x0 x1 x2 x3 x4 : D) : allL n (bL [x0, x1, x2, x3, x4, frL1 false false] 6) = zipW (outL [x0, x1, x2, x3, x4] false 6) lns (nth [] tB2 6) := by kernel_rfl
theorem bP_5_7 (n : Nat) (x0 x1 x2 x3 x4 : D) : allP n (bP [x0, x1, x2, x3, x4, frP1 false false] 7) = zipW (outP [x0, x1, x2, x3, x4] false 7) lns (nth [] tB2 7) := by kernel_rfl
theorem bL_5_7 (n : Nat) (x0 x1 x2 x3 x4 : D) : allL n (bL [x0, x1, x2, x3, x4, frL1 false false] 7) = zipW (outL [x0, x1, x2, x3, x4] false 7) lns (nth [] tB2 7) := by kernel_rfl
end Rp
namespace Rp
open PySem PySem.Spec PyProof.Rows L2
theorem bP_6_0 (n : Nat) (x0 x1 x2 x3 x4 x5 : D) : allP n (bP [x0, x1, x2, x3, x4, x5, frP1 false true] 0) = zipW (outP [x0, x1, x2, x3, x4, x5] false 0) lns (nth [] tB2 0) := by kernel_rfl
theorem bL_6_0 (n : Nat) (x0 x1 x2 x3 x4 x5 : D) : allL n (bL [x0, x1, x2, x3, x4, x5, frL1 false true] 0) = zipW (outL [x0, x1, x2, x3, x4, x5] false 0) lns (nth [] tB2 0) := by kernel_rfl
theorem bP_6_1 (n : Nat) (x0 x1 x2 x3 x4 x5 : D) : allP n (bP [x0, x1, x2, x3, x4, x5, frP1 false true] 1) = zipW (outP [x0, x1, x2, x3, x4, x5] false 1) lns (nth [] tB2 1) := by kernel_rfl
theorem bL_6_1 (n : Nat) (x0 x1 x2 x3 x4 x5 : D) : allL n (bL [x0, x1, x2, x3, x4, x5, frL1 false true] 1) = zipW (outL [x0, x1, x2, x3, x4, x5] false 1) lns (nth [] tB2 1) := by kernel_rfl
theorem bP_6_2 (n : Nat) (x0 x1 x2 x3 x4 x5 : D) : allP n (bP [x0, x1, x2, x3, x4, x5, frP1 false true] 2) = zipW (outP [x0, x1, x2, x3, x4, x5] false 2) lns (nth [] tB2 2) := by kernel_rfl
theorem bL_6_2 (n : Nat) (x0 x1 x2 x3 x4 x5 : D) : allL n (bL [x0, x1, x2, x3, x4, x5, frL1 false true] 2) = zipW (outL [x0, x1, x2, x3, x4, x5] false 2) lns (nth [] tB2 2) := by kernel_rfl
theorem bP_6_3 (n : Nat) (x0 x1 x2 x3 x4 x5 : D) : allP n (bP [x0, x1, x2, x3, x4, x5, frP1 false false] 3) = zipW (outP [x0, x1, x2, x3, x4, x5] false 3) lns (nth [] tB2 3) := by kernel_rfl
theorem bL_6_3 (n : Nat) (x0 x1 x2 x3 x4 x5 : D) : allL n (bL [x0, x1, x2, x3, x4, x5, frL1 false false] 3) = zipW (outL [x0, x1, x2, x3, x4, x5] false 3) lns (nth [] tB2 3) := by kernel_rfl
theorem bP_6_4 (n : Nat) (x0 x1 x2 x3 x4 x5 : D) : allP n (bP [x0, x1, x2, x3, x4, x5, frP1 false false] 4) = zipW (outP [x0, x1, x2, x3, x4, x5] false 4) lns (nth [] tB2 4) := by kernel_rfl
theorem bL_6_4 (n : Nat) (x0 x1 x2 x3 x4 x5 : D) : allL n (bL [x0, x1, x2, x3, x4, x5, frL1 false false] 4) = zipW (outL [x0, x1, x2, x3, x4, x5] false 4) lns (nth [] tB2 4) := by kernel_rfl
theorem bP_6_5 (n : Nat) (x0 x1 x2 x3 x4 x5 : D) : allP n (bP [x0, x1, x2, x3, x4, x5, frP1 false false] 5) = zipW (outP [x0, x1, x2, x3, x4, x5] false 5) lns (nth [] tB2 5) := by kernel_rfl
theorem bL_6_5 (n : Nat) (x0 x1 x2 x3 x4 x5 : D) : allL n (bL [x0, x1, x2, x3, x4, x5, frL1 false false] 5) = zipW (outL [x0, x1, x2, x3, x4, x5] false 5) lns (nth [] tB2 5) := by kernel_rfl
theorem bP_6_6 (n : Nat) (x0 x1 x2 x3 x4 x5 : D) : allP n (bP [x0, x1, x2, x3, x4, x5, frP1 false false] 6) = zipW (outP [x0, x1, x2, x3, x4, x5] false 6) lns (nth [] tB2 6) := by kernel_rfl
theorem bL_6_6 (n : Nat) (x0 x1 x2 x3 x4 x5 : D) : allL n (bL [x0, x1, x2, x3, x4, x5, frL1 false false] 6) = zipW (outL [x0, x1, x2, x3, x4, x5] false 6) lns (nth [] tB2 6) := by kernel_rfl
theorem bP_6_7 (n : Nat) (x0 x1 x2 x3 x4 x5 : D) : allP n (bP [x0, x1, x2, x3, x4, x5, frP1 false false] 7) = zipW (outP [x0, x1, x2, x3, x4, x5] false 7) lns (nth [] tB2 7) := by kernel_rfl
theorem bL_6_7 (n : Nat) (x0 x1 x2 x3 x4 x5 : D) : allL n (bL [x0, x1, x2, x3, x4, x5, frL1 false false] 7) = zipW (outL [x0, x1, x2, x3, x4, x5] false 7) lns (nth [] tB2 7) := by kernel_rfl
end Rp
namespace Rp
open PySem PySem.Spec PyProof.Rows L2
theorem bP_7_0 (n : Nat) (x0 x1 x2 x3 x4 x5 x6 : D) : allP n (bP [x0, x1, x2, x3, x4, x5, x6, frP1 false true] 0) = zipW (outP [x0, x1, x2, x3, x4, x5, x6] false 0) lns (nth [] tB2 0) := by kernel_rfl
theorem bL_7_0 (n : Nat) (x0 x1 x2 x3 x4 x5 x6 : D) : allL n (bL [x0, x1, x2, x3, x4, x5, x6, frL1 false true] 0) = zipW (outL [x0, x1, x2, x3, x4, x5, x6] false 0) lns (nth [] tB2 0) := by kernel_rfl
theorem bP_7_1 (n : Nat) (x0 x1 x2 x3 x4 x5 x6 : D) : allP n (bP [x0, x1, x2, x3, x4, x5, x6, frP1 false true] 1) = zipW (outP [x0, x1, x2, x3, x4, x5, x6] false 1) lns (nth [] tB2 1) := by kernel_rfl
theorem bL_7_1 (n : Nat) (x0 x1 x2 x3 x4 x5 x6 : D) : allL n (bL [x0, x1, x2, x3, x4, x5, x6, frL1 false true] 1) = zipW (outL [x0, x1, x2, x3, x4, x5, x6] false 1) lns (nth [] tB2 1) := by kernel_rfl
theorem bP_7_2 (n : Nat) (x0 x1 x2 x3 x4 x5 x6 : D) : allP n (bP [x0, x1, x2, x3, x4, x5, x6, frP1 false true] 2) = zipW (outP [x0, x1, x2, x3, x4, x5, x6] false 2) lns (nth [] tB2 2) := by kernel_rfl
theorem bL_7_2 (n : Nat) (x0 x1 x2 x3 x4 x5 x6 : D) : allL n (bL [x0, x1, x2, x3, x4, x5, x6, frL1 false true] 2) = zipW (outL [x0, x1, x2, x3, x4, x5, x6] false 2) lns (nth [] tB2 2) := by kernel_rfl
theorem bP_7_3 (n : Nat) (x0 x1 x2 x3 x4 x5 x6 : D) : allP n (bP [x0, x1, x2, x3, x4, x5, x6, frP1 false false] 3) = zipW (outP [x0, x1, x2, x3, x4, x5, x6] false 3) lns (nth [] tB2 3) := by kernel_rfl
theorem bL_7_3 (n : Nat) (x0 x1 x2 x3 x4 x5 x6 : D) : allL n (bL [x0, x1, x2, x3, x4, x5, x6, frL1 false false] 3) = zipW (outL [x0, x1, x2, x3, x4, x5, x6] false 3) lns (nth [] tB2 3) := by kernel_rfl
theorem bP_7_4 (n : Nat) (x0 x1 x2 x3 x4 x5 x6 : D) : allP n (bP [x0, x1, x2, x3, x4, x5, x6, frP1 false false] 4) = zipW (outP [x0, x1, x2, x3, x4, x5, x6] false 4) lns (nth [] tB2 4) := by kernel_rfl
theorem bL_7_4 (n : Nat) (x0 x1 x2 x3 x4 x5 x6 : D) : allL n (bL [x0, x1, x2, x3, x4, x5, x6, frL1 false false] 4) = zipW (outL [x0, x1, x2, x3, x4, x5, x6] false 4) lns (nth [] tB2 4) := by kernel_rfl
theorem bP_7_5 (n : Nat) (x0 x1 x2 x3 x4 x5 x6 : D) : allP n (bP [x0, x1, x2, x3, x4, x5, x6, frP1 false false] 5) = zipW (outP [x0, x1, x2, x3, x4, x5, x6] false 5) lns (nth [] tB2 5) := by kernel_rfl
theorem bL_7_5 (n : Nat) (x0 x1 x2 x3 x4 x5 x6 : D) : allL n (bL [x0, x1, x2, x3, x4, x5, x6, frL1 false false] 5) = zipW (outL [x0, x1, x2, x3, x4, x5, x6] false 5) lns (nth [] tB2 5) := by kernel_rfl
theorem bP_7_6 (n : Nat) (x0 x1 x2 x3 x4 x5 x6 : D) : allP n (bP [x0, x1, x2, x3, x4, x5, x6, frP1 false false] 6) = zipW (outP [x0, x1, x2, x3, x4, x5, x6] false 6) lns (nth [] tB2 6) := by kernel_rfl
theorem bL_7_6 (n : Nat) (x0 x1 x2 x3 x4 x5 x6 : D) : allL n (bL [x0, x1, x2, x3, x4, x5, x6, frL1 false false] 6) = zipW (outL [x0, x1, x2, x3, x4, x5, x6] false 6) lns (nth [] tB2 6) := by kernel_rfl
theorem bP_7_7 (n : Nat) (x0 x1 x2 x3 x4 x5 x6 : D) : allP n (bP [x0, x1, x2, x3, x4, x5, x6, frP1 false false] 7) = zipW (outP [x0, x1, x2, x3, x4, x5, x6] false 7) lns (nth [] tB2 7) := by kernel_rfl
theorem bL_7_7 (n : Nat) (x0 x1 x2 x3 x4 x5 x6 : D) : allL n (bL [x0, x1, x2, x3, x4, x5, x6, frL1 false false] 7) = zipW (outL [x0, x1, x2, x3, x4, x5, x6] false 7) lns (nth [] tB2 7) := by kernel_rfl
end Rp
namespace Rp
open PySem PySem.Spec PyProof.Rows L2
theorem bP_8_0 (n : Nat) (x0 x1 x2 x3 x4 x5 x6 x7 : D) : allP n (bP [x0, x1, x2, x3, x4, x5, x6, x7, frP1 false true] 0) = zipW (outP [x0, x1, x2, x3, x4, x5, x6, x7] false 0) lns (nth [] tB2 0) := by kernel_rfl
theorem bL_8_0 (n : Nat) (x0 x1 x2 x3 x4 x5 x6 x7 : D) : allL n (bL [x0, x1, x2, x3, x4, x5, x6, x7, frL1 false true] 0) = zipW (outL [x0, x1, x2, x3, x4, x5, x6, x7] false 0) lns (nth [] tB2 0) := by kernel_rfl
theorem bP_8_1 (n : Nat) (x0 x1 x2 x3 x4 x5 x6 x7 : D) : allP n (bP [x0, x1, x2, x3, x4, x5, x6, x7, frP1 false true] 1) = zipW (outP [x0, x1, x2, x3, x4, x5, x6, x7] false 1) lns (nth [] tB2 1) := by kernel_rfl
theorem bL_8_1 (n : Nat) (x0 x1 x2 x3 x4 x5 x6 x7 : D) : allL n (bL [x0, x1, x2, x3, x4, x5, x6, x7, frL1 false true] 1) = zipW (outL [x0, x1, x2, x3, x4, x5, x6, x7] false 1) lns (nth [] tB2 1) := by kernel_rfl
theorem bP_8_2 (n : Nat) (x0 x1 x2 x3 x4 x5 x6 x7 : D) : allP n (bP [x0, x1, x2, x3, x4, x5, x6, x7, frP1 false true] 2) = zipW (outP [x0, x1, x2, x3, x4, x5, x6, x7] false 2) lns (nth [] tB2 2) := by kernel_rfl
theorem bL_8_2 (n : Nat) (x0 x1 x2 x3 x4 x5 x6 x7 : D) : allL n (bL [x0, x1, x2, x3, x4, x5, x6, x7, frL1 false true] 2) = zipW (outL [x0, x1, x2, x3, x4, x5, x6, x7] false 2) lns (nth [] tB2 2) := by kernel_rfl
theorem bP_8_3 (n : Nat) (x0 x1 x2 x3 x4 x5 x6 x7 : D) : allP n (bP [x0, x1, x2, x3, x4, x5, x6, x7, frP1 false false] 3) = zipW (outP [x0, x1, x2, x3, x4, x5, x6, x7] false 3) lns (nth [] tB2 3) := by kernel_rfl
theorem bL_8_3 (n : Nat) (x0 x1 x2 x3 x4 x5 x6 x7 : D) : allL n (bL [x0, x1, x2, x3, x4, x5, x6, x7, frL1 false false] 3) = zipW (outL [x0, x1, x2, x3, x4, x5, x6, x7] false 3) lns (nth [] tB2 3) := by kernel_rfl
theorem bP_8_4 (n : Nat) (x0 x1 x2 x3 x4 x5 x6 x7 : D) : allP n (bP [x0, x1, x2, x3, x4, x5, x6, x7, frP1 false false] 4) = zipW (outP [x0, x1, x2, x3, x4, x5, x6, x7] false 4) lns (nth [] tB2 4) := by kernel_rfl
theorem bL_8_4 (n : Nat) (x0 x1 x2 x3 x4 x5 x6 x7 : D) : allL n (bL [x0, x1, x2, x3, x4, x5, x6, x7, frL1 false false] 4) = zipW (outL [x0, x1, x2, x3, x4, x5, x6, x7] false 4) lns (nth [] tB2 4) := by kernel_rfl
theorem bP_8_5 (n : Nat) (x0 x1 x2 x3 x4 x5 x6 x7 : D) : allP n (bP [x0, x1, x2, x3, x4, x5, x6, x7, frP1 false false] 5) = zipW (outP [x0, x1, x2, x3, x4, x5, x6, x7] false 5) lns (nth [] tB2 5) := by kernel_rfl
theorem bL_8_5 (n : Nat) (x0 x1 x2 x3 x4 x5 x6 x7 : D) : allL n (bL [x0, x1, x2, x3, x4, x5, x6, x7, frL1 false false] 5) = zipW (outL [x0, x1, x2, x3, x4, x5, x6, x7] false 5) lns (nth [] tB2 5) := by kernel_rfl
theorem bP_8_6 (n : Nat) (x0 x1 x2 x3 x4 x5 x6 x7 : D) : allP n (bP [x0, x1, x2, x3, x4, x5, x6, x7, frP1 false false] 6) = zipW (outP [x0, x1, x2, x3, x4, x5, x6, x7] false 6) lns (nth [] tB2 6) := by kernel_rfl
theorem bL_8_6 (n : Nat) (x0 x1 x2 x3 x4 x5 x6 x7 : D) : allL n (bL [x0, x1, x2, x3, x4, x5, x6, x7, frL1 false false] 6) = zipW (outL [x0, x1, x2, x3, x4, x5, x6, x7] false 6) lns (nth [] tB2 6) := by kernel_rfl
theorem bP_8_7 (n : Nat) (x0 x1 x2 x3 x4 x5 x6 x7 : D) : allP n (bP [x0, x1, x2, x3, x4, x5, x6, x7, frP1 false false] 7) = zipW (outP [x0, x1, x2, x3, x4, x5, x6, x7] false 7) lns (nth [] tB2 7) := by kernel_rfl
theorem bL_8_7 (n : Nat) (x0 x1 x2 x3 x4 x5 x6 x7 : D) : allL n (bL [x0, x1, x2, x3, x4, x5, x6, x7, frL1 false false] 7) = zipW (outL [x0, x1, x2, x3, x4, x5, x6, x7] false 7) lns (nth [] tB2 7) := by kernel_rfl
end Rp
namespace Rp
open PySem PySem.Spec PyProof.Rows L2
def frsL : Bool → List Bool → List D
  | _, [] => []
  | bot, k :: r => frL1 bot k :: frsL false r
def stL : LS → D × D
  | .n i => nth (.non, .non) nL i
  | .b ks t => bL (frsL true ks ++ [frL1 ks.isEmpty (kOf t)]) t
def okS (m : Nat) : LS → Prop
  | .n i => i < 29
  | .b ks t => t < 8 ∧ ks.length < m
def okO (kind : Nat) : LO → Bool
  | .err c => Nat.blt c 20
  | .n i => Nat.blt i 29
  | .b t => Nat.beq kind 0 && Nat.blt t 8
  | .stay t => Nat.blt 0 kind && Nat.blt t 8
  | .push t => Nat.blt 0 kind && Nat.blt t 8
  | .pop => Nat.beq kind 2
def okRows (kind : Nat) (rs : List (List LO)) : Bool := rs.all fun r => Nat.beq r.length 27 && r.all (okO kind)
theorem okTN : (Nat.beq tN.length 29 && okRows 0 tN) = true := by kernel_rfl
theorem okB1 : (Nat.beq tB1.length 8 && okRows 1 tB1) = true := by kernel_rfl
theorem okB2 : (Nat.beq tB2.length 8 && okRows 2 tB2) = true := by kernel_rfl
theorem nth_mem {α : Type} {d : α} : ∀ {l : List α} {i : Nat}, i < l.length → nth d l i ∈ l
  | [], _, h => by simp at h
  | a :: _, 0, _ => List.mem_cons_self ..
  | _ :: r, i + 1, h => List.mem_cons_of_mem _ (nth_mem (by simpa using h))
theorem nth_map {α β : Type} {f : α → β} {d : β} {d' : α} : ∀ {l : List α} {i : Nat}, i < l.length → nth d (l.map f) i = f (nth d' l i)
  | [], _, h => by simp at h
  | _ :: _, 0, _ => rfl
  | _ :: r, i + 1, h => nth_map (l := r) (by simpa using h)
theorem nth_zipW {α β γ : Type} {f : α → β → γ} {d : γ} {da : α} {db : β} : ∀ {as : List α} {bs : List β} {i : Nat}, i < as.length → i < bs.length → nth d (zipW f as bs) i = f (nth da as i) (nth db bs i)
  | [], _, _, h, _ => by simp at h
  | _ :: _, [], _, _, h => by simp at h
  | _ :: _, _ :: _, 0, _, _ => rfl
  | _ :: as, _ :: bs, i + 1, h1, h2 => nth_zipW (as := as) (bs := bs) (by simpa using h1) (by simpa using h2)
theorem row_ok {kind : Nat} {rs : List (List LO)} (h : okRows kind rs = true) {i : Nat} (hi : i < rs.length) : (nth [] rs i).length = 27 ∧ ∀ o ∈ nth [] rs i, okO kind o = true := by
  have h1 := List.all_eq_true.mp h _ (nth_mem (d := []) hi)
  obtain ⟨h2, h3⟩ := Bool.and_eq_true_iff.mp h1
  exact ⟨Nat.eq_of_beq_eq_true h2, fun o ho => List.all_eq_true.mp h3 o ho⟩
def kindS : LS → Nat
  | .n _ => 0
  | .b ks _ => cond ks.isEmpty 1 2
theorem rowS_ok {s : LS} {m : Nat} (h : okS m s) : (rowS s).length = 27 ∧ ∀ o ∈ rowS s, okO (kindS s) o = true := by
  cases s with
  | n i =>
    obtain ⟨h1, h2⟩ := Bool.and_eq_true_iff.mp okTN
    exact row_ok h2 (by rw [Nat.eq_of_beq_eq_true h1]; exact h)
  | b ks t =>
    cases ks with
    | nil =>
      obtain ⟨h1, h2⟩ := Bool.and_eq_true_iff.mp okB1
      exact row_ok h2 (by rw [Nat.eq_of_beq_eq_true h1]; exact h.1)
    | cons k r =>
      obtain ⟨h1, h2⟩ := Bool.and_eq_true_iff.mp okB2
      exact row_ok h2 (by rw [Nat.eq_of_beq_eq_true h1]; exact h.1)
theorem stepO {s : LS} {m j : Nat} (h : okS m s) (hj : j < 27) : okO (kindS s) (nth (.err 0) (rowS s) j) = true := by
  obtain ⟨h1, h2⟩ := rowS_ok h
  exact h2 _ (nth_mem (by rw [h1]; exact hj))
theorem blt_lt {a b : Nat} (h : Nat.blt a b = true) : a < b := Nat.le_of_ble_eq_true h
/-- the step stays within the states -/
theorem stepS_ok {s s' : LS} {m j : Nat} (h : okS m s) (hj : j < 27) (e : stepS s j = .inl s') : okS (m + 1) s' := by
  have h0 := stepO h hj
  unfold stepS at e
  generalize nth (.err 0) (rowS s) j = o at h0 e
  cases o with
  | err c => cases e
  | n i => cases e; exact blt_lt h0
  | b t =>
    cases e
    exact ⟨blt_lt (Bool.and_eq_true_iff.mp h0).2, Nat.succ_pos _⟩
  | stay t =>
    cases s with
    | n i => cases e
    | b ks t0 => cases e; exact ⟨blt_lt (Bool.and_eq_true_iff.mp h0).2, Nat.lt_succ_of_lt h.2⟩
  | push t =>
    cases s with
    | n i => cases e
    | b ks t0 =>
      cases e
      refine ⟨blt_lt (Bool.and_eq_true_iff.mp h0).2, ?_⟩
      rw [List.length_append]
      exact Nat.succ_lt_succ h.2
  | pop =>
    cases s with
    | n i => cases e
    | b ks t0 =>
      cases e
      refine ⟨by cases ks.getLastD false <;> decide, ?_⟩
      rw [List.length_dropLast]
      have := h.2
      omega
theorem stepS_err {s : LS} {m j c : Nat} (h : okS m s) (hj : j < 27) (e : stepS s j = .inr c) : c < 20 := by
  have h0 := stepO h hj
  unfold stepS at e
  generalize nth (.err 0) (rowS s) j = o at h0 e
  cases o with
  | err c' => cases e; exact blt_lt h0
  | n i => cases e
  | b t => cases e
  | stay t => cases s <;> cases e; decide
  | push t => cases s <;> cases e; decide
  | pop => cases s <;> cases e; decide
theorem frsP_app : ∀ (bot : Bool) (ks : List Bool) (k : Bool), frsP bot (ks ++ [k]) = frsP bot ks ++ [frP1 (bot && ks.isEmpty) k]
  | bot, [], k => by cases bot <;> rfl
  | bot, k0 :: r, k => by
    show frP1 bot k0 :: frsP false (r ++ [k]) = frP1 bot k0 :: (frsP false r ++ [frP1 (bot && false) k])
    rw [frsP_app false r k, Bool.and_false, Bool.false_and]
theorem frsL_app : ∀ (bot : Bool) (ks : List Bool) (k : Bool), frsL bot (ks ++ [k]) = frsL bot ks ++ [frL1 (bot && ks.isEmpty) k]
  | bot, [], k => by cases bot <;> rfl
  | bot, k0 :: r, k => by
    show frL1 bot k0 :: frsL false (r ++ [k]) = frL1 bot k0 :: (frsL false r ++ [frL1 (bot && false) k])
    rw [frsL_app false r k, Bool.and_false, Bool.false_and]
/-- the states' run over a line -/
def outS (l : List Ch) : Sum LS Nat → Option D × Nat
  | .inl s => (some (stP s), len l)
  | .inr c => (none, c)
def outSL (l : List Ch) : Sum LS Nat → Option (D × D) × Nat
  | .inl s => (some (stL s), len l)
  | .inr c => (none, c)
theorem allNP (n : Nat) : ∀ i, i < 29 → allP n (nth .non nP i) = zipW (outP [] true 0) lns (nth [] tN i)
  | 0, _ => nP_0 n
  | 1, _ => nP_1 n
  | 2, _ => nP_2 n
  | 3, _ => nP_3 n
  | 4, _ => nP_4 n
  | 5, _ => nP_5 n
  | 6, _ => nP_6 n
  | 7, _ => nP_7 n
  | 8, _ => nP_8 n
  | 9, _ => nP_9 n
  | 10, _ => nP_10 n
  | 11, _ => nP_11 n
  | 12, _ => nP_12 n
  | 13, _ => nP_13 n
  | 14, _ => nP_14 n
  | 15, _ => nP_15 n
  | 16, _ => nP_16 n
  | 17, _ => nP_17 n
  | 18, _ => nP_18 n
  | 19, _ => nP_19 n
  | 20, _ => nP_20 n
  | 21, _ => nP_21 n
  | 22, _ => nP_22 n
  | 23, _ => nP_23 n
  | 24, _ => nP_24 n
  | 25, _ => nP_25 n
  | 26, _ => nP_26 n
  | 27, _ => nP_27 n
  | 28, _ => nP_28 n
  | i + 29, h => absurd h (by omega)
theorem allNL (n : Nat) : ∀ i, i < 29 → allL n (nth (.non, .non) nL i) = zipW (outL [] true 0) lns (nth [] tN i)
  | 0, _ => nL_0 n
  | 1, _ => nL_1 n
  | 2, _ => nL_2 n
  | 3, _ => nL_3 n
  | 4, _ => nL_4 n
  | 5, _ => nL_5 n
  | 6, _ => nL_6 n
  | 7, _ => nL_7 n
  | 8, _ => nL_8 n
  | 9, _ => nL_9 n
  | 10, _ => nL_10 n
  | 11, _ => nL_11 n
  | 12, _ => nL_12 n
  | 13, _ => nL_13 n
  | 14, _ => nL_14 n
  | 15, _ => nL_15 n
  | 16, _ => nL_16 n
  | 17, _ => nL_17 n
  | 18, _ => nL_18 n
  | 19, _ => nL_19 n
  | 20, _ => nL_20 n
  | 21, _ => nL_21 n
  | 22, _ => nL_22 n
  | 23, _ => nL_23 n
  | 24, _ => nL_24 n
  | 25, _ => nL_25 n
  | 26, _ => nL_26 n
  | 27, _ => nL_27 n
  | 28, _ => nL_28 n
  | i + 29, h => absurd h (by omega)
theorem allBP (n : Nat) : ∀ (ks : List Bool) (t : Nat), ks.length < 9 → t < 8 → allP n (bP (frsP true ks ++ [frP1 ks.isEmpty (kOf t)]) t) = zipW (outP (frsP true ks) ks.isEmpty t) lns (nth [] (cond ks.isEmpty tB1 tB2) t)
  | [], 0, _, _ => bP_0_0 n
  | [], 1, _, _ => bP_0_1 n
  | [], 2, _, _ => bP_0_2 n
  | [], 3, _, _ => bP_0_3 n
  | [], 4, _, _ => bP_0_4 n
  | [], 5, _, _ => bP_0_5 n
  | [], 6, _, _ => bP_0_6 n
  | [], 7, _, _ => bP_0_7 n
  | [k0], 0, _, _ => bP_1_0 n (frP1 true k0)
  | [k0], 1, _, _ => bP_1_1 n (frP1 true k0)
  | [k0], 2, _, _ => bP_1_2 n (frP1 true k0)
  | [k0], 3, _, _ => bP_1_3 n (frP1 true k0)
  | [k0], 4, _, _ => bP_1_4 n (frP1 true k0)
  | [k0], 5, _, _ => bP_1_5 n (frP1 true k0)
  | [k0], 6, _, _ => bP_1_6 n (frP1 true k0)
  | [k0], 7, _, _ => bP_1_7 n (frP1 true k0)
  | [k0, k1], 0, _, _ => bP_2_0 n (frP1 true k0) (frP1 false k1)
  | [k0, k1], 1, _, _ => bP_2_1 n (frP1 true k0) (frP1 false k1)
  | [k0, k1], 2, _, _ => bP_2_2 n (frP1 true k0) (frP1 false k1)
  | [k0, k1], 3, _, _ => bP_2_3 n (frP1 true k0) (frP1 false k1)
  | [k0, k1], 4, _, _ => bP_2_4 n (frP1 true k0) (frP1 false k1)
  | [k0, k1], 5, _, _ => bP_2_5 n (frP1 true k0) (frP1 false k1)
  | [k0, k1], 6, _, _ => bP_2_6 n (frP1 true k0) (frP1 false k1)
  | [k0, k1], 7, _, _ => bP_2_7 n (frP1 true k0) (frP1 false k1)
  | [k0, k1, k2], 0, _, _ => bP_3_0 n (frP1 true k0) (frP1 false k1) (frP1 false k2)
  | [k0, k1, k2], 1, _, _ => bP_3_1 n (frP1 true k0) (frP1 false k1) (frP1 false k2)
  | [k0, k1, k2], 2, _, _ => bP_3_2 n (frP1 true k0) (frP1 false k1) (frP1 false k2)
  | [k0, k1, k2], 3, _, _ => bP_3_3 n (frP1 true k0) (frP1 false k1) (frP1 false k2)
  | [k0, k1, k2], 4, _, _ => bP_3_4 n (frP1 true k0) (frP1 false k1) (frP1 false k2)
  | [k0, k1, k2], 5, _, _ => bP_3_5 n (frP1 true k0) (frP1 false k1) (frP1 false k2)
  | [k0, k1, k2], 6, _, _ => bP_3_6 n (frP1 true k0) (frP1 false k1) (frP1 false k2)
  | [k0, k1, k2], 7, _, _ => bP_3_7 n (frP1 true k0) (frP1 false k1) (frP1 false k2)
  | [k0, k1, k2, k3], 0, _, _ => bP_4_0 n (frP1 true k0) (frP1 false k1) (frP1 false k2) (frP1 false k3)
  | [k0, k1, k2, k3], 1, _, _ => bP_4_1 n (frP1 true k0) (frP1 false k1) (frP1 false k2) (frP1 false k3)
  | [k0, k1, k2, k3], 2, _, _ => bP_4_2 n (frP1 true k0) (frP1 false k1) (frP1 false k2) (frP1 false k3)
  | [k0, k1, k2, k3], 3, _, _ => bP_4_3 n (frP1 true k0) (frP1 false k1) (frP1 false k2) (frP1 false k3)
  | [k0, k1, k2, k3], 4, _, _ => bP_4_4 n (frP1 true k0) (frP1 false k1) (frP1 false k2) (frP1 false k3)
  | [k0, k1, k2, k3], 5, _, _ => bP_4_5 n (frP1 true k0) (frP1 false k1) (frP1 false k2) (frP1 false k3)
  | [k0, k1, k2, k3], 6, _, _ => bP_4_6 n (frP1 true k0) (frP1 false k1) (frP1 false k2) (frP1 false k3)
  | [k0, k1, k2, k3], 7, _, _ => bP_4_7 n (frP1 true k0) (frP1 false k1) (frP1 false k2) (frP1 false k3)
  | [k0, k1, k2, k3, k4], 0, _, _ => bP_5_0 n (frP1 true k0) (frP1 false k1) (frP1 false k2) (frP1 false k3) (frP1 false k4)
  | [k0, k1, k2, k3, k4], 1, _, _ => bP_5_1 n (frP1 true k0) (frP1 false k1) (frP1 false k2) (frP1 false k3) (frP1 false k4)
  | [k0, k1, k2, k3, k4], 2, _, _ => bP_5_2 n (frP1 true k0) (frP1 false k1) (frP1 false k2) (frP1 false k3) (frP1 false k4)
  | [k0, k1, k2, k3, k4], 3, _, _ => bP_5_3 n (frP1 true k0) (frP1 false k1) (frP1 false k2) (frP1 false k3) (frP1 false k4)
  | [k0, k1, k2, k3, k4], 4, _, _ => bP_5_4 n (frP1 true k0) (frP1 false k1) (frP1 false k2) (frP1 false k3) (frP1 false k4)
  | [k0, k1, k2, k3, k4], 5, _, _ => bP_5_5 n (frP1 true k0) (frP1 false k1) (frP1 false k2) (frP1 false k3) (frP1 false k4)
  | [k0, k1, k2, k3, k4], 6, _, _ => bP_5_6 n (frP1 true k0) (frP1 false k1) (frP1 false k2) (frP1 false k3) (frP1 false k4)
  | [k0, k1, k2, k3, k4], 7, _, _ => bP_5_7 n (frP1 true k0) (frP1 false k1) (frP1 false k2) (frP1 false k3) (frP1 false k4)
  | [k0, k1, k2, k3, k4, k5], 0, _, _ => bP_6_0 n (frP1 true k0) (frP1 false k1) (frP1 false k2) (frP1 false k3) (frP1 false k4) (frP1 false k5)
  | [k0, k1, k2, k3, k4, k5], 1, _, _ => bP_6_1 n (frP1 true k0) (frP1 false k1) (frP1 false k2) (frP1 false k3) (frP1 false k4) (frP1 false k5)
  | [k0, k1, k2, k3, k4, k5], 2, _, _ => bP_6_2 n (frP1 true k0) (frP1 false k1) (frP1 false k2) (frP1 false k3) (frP1 false k4) (frP1 false k5)
  | [k0, k1, k2, k3, k4, k5], 3, _, _ => bP_6_3 n (frP1 true k0) (frP1 false k1) (frP1 false k2) (frP1 false k3) (frP1 false k4) (frP1 false k5)
  | [k0, k1, k2, k3, k4, k5], 4, _, _ => bP_6_4 n (frP1 true k0) (frP1 false k1) (frP1 false k2) (frP1 false k3) (frP1 false k4) (frP1 false k5)
  | [k0, k1, k2, k3, k4, k5], 5, _, _ => bP_6_5 n (frP1 true k0) (frP1 false k1) (frP1 false k2) (frP1 false k3) (frP1 false k4) (frP1 false k5)
  | [k0, k1, k2, k3, k4, k5], 6, _, _ => bP_6_6 n (frP1 true k0) (frP1 false k1) (frP1 false k2) (frP1 false k3) (frP1 false k4) (frP1 false k5)
  | [k0, k1, k2, k3, k4, k5], 7, _, _ => bP_6_7 n (frP1 true k0) (frP1 false k1) (frP1 false k2) (frP1 false k3) (frP1 false k4) (frP1 false k5)
  | [k0, k1, k2, k3, k4, k5, k6], 0, _, _ => bP_7_0 n (frP1 true k0) (frP1 false k1) (frP1 false k2) (frP1 false k3) (frP1 false k4) (frP1 false k5) (frP1 false k6)
  | [k0, k1, k2, k3, k4, k5, k6], 1, _, _ => bP_7_1 n (frP1 true k0) (frP1 false k1) (frP1 false k2) (frP1 false k3) (frP1 false k4) (frP1 false k5) (frP1 false k6)
  | [k0, k1, k2, k3, k4, k5, k6], 2, _, _ => bP_7_2 n (frP1 true k0) (frP1 false k1) (frP1 false k2) (frP1 false k3) (frP1 false k4) (frP1 false k5) (frP1 false k6)
  | [k0, k1, k2, k3, k4, k5, k6], 3, _, _ => bP_7_3 n (frP1 true k0) (frP1 false k1) (frP1 false k2) (frP1 false k3) (frP1 false k4) (frP1 false k5) (frP1 false k6)
  | [k0, k1, k2, k3, k4, k5, k6], 4, _, _ => bP_7_4 n (frP1 true k0) (frP1 false k1) (frP1 false k2) (frP1 false k3) (frP1 false k4) (frP1 false k5) (frP1 false k6)
  | [k0, k1, k2, k3, k4, k5, k6], 5, _, _ => bP_7_5 n (frP1 true k0) (frP1 false k1) (frP1 false k2) (frP1 false k3) (frP1 false k4) (frP1 false k5) (frP1 false k6)
  | [k0, k1, k2, k3, k4, k5, k6], 6, _, _ => bP_7_6 n (frP1 true k0) (frP1 false k1) (frP1 false k2) (frP1 false k3) (frP1 false k4) (frP1 false k5) (frP1 false k6)
  | [k0, k1, k2, k3, k4, k5, k6], 7, _, _ => bP_7_7 n (frP1 true k0) (frP1 false k1) (frP1 false k2) (frP1 false k3) (frP1 false k4) (frP1 false k5) (frP1 false k6)
  | [k0, k1, k2, k3, k4, k5, k6, k7], 0, _, _ => bP_8_0 n (frP1 true k0) (frP1 false k1) (frP1 false k2) (frP1 false k3) (frP1 false k4) (frP1 false k5) (frP1 false k6) (frP1 false k7)
  | [k0, k1, k2, k3, k4, k5, k6, k7], 1, _, _ => bP_8_1 n (frP1 true k0) (frP1 false k1) (frP1 false k2) (frP1 false k3) (frP1 false k4) (frP1 false k5) (frP1 false k6) (frP1 false k7)
  | [k0, k1, k2, k3, k4, k5, k6, k7], 2, _, _ => bP_8_2 n (frP1 true k0) (frP1 false k1) (frP1 false k2) (frP1 false k3) (frP1 false k4) (frP1 false k5) (frP1 false k6) (frP1 false k7)
  | [k0, k1, k2, k3, k4, k5, k6, k7], 3, _, _ => bP_8_3 n (frP1 true k0) (frP1 false k1) (frP1 false k2) (frP1 false k3) (frP1 false k4) (frP1 false k5) (frP1 false k6) (frP1 false k7)
  | [k0, k1, k2, k3, k4, k5, k6, k7], 4, _, _ => bP_8_4 n (frP1 true k0) (frP1 false k1) (frP1 false k2) (frP1 false k3) (frP1 false k4) (frP1 false k5) (frP1 false k6) (frP1 false k7)
  | [k0, k1, k2, k3, k4, k5, k6, k7], 5, _, _ => bP_8_5 n (frP1 true k0) (frP1 false k1) (frP1 false k2) (frP1 false k3) (frP1 false k4) (frP1 false k5) (frP1 false k6) (frP1 false k7)
  | [k0, k1, k2, k3, k4, k5, k6, k7], 6, _, _ => bP_8_6 n (frP1 true k0) (frP1 false k1) (frP1 false k2) (frP1 false k3) (frP1 false k4) (frP1 false k5) (frP1 false k6) (frP1 false k7)
  | [k0, k1, k2, k3, k4, k5, k6, k7], 7, _, _ => bP_8_7 n (frP1 true k0) (frP1 false k1) (frP1 false k2) (frP1 false k3) (frP1 false k4) (frP1 false k5) (frP1 false k6) (frP1 false k7)
  | [], t + 8, _, h => absurd h (by omega)
  | [k0], t + 8, _, h => absurd h (by omega)
  | [k0, k1], t + 8, _, h => absurd h (by omega)
  | [k0, k1, k2], t + 8, _, h => absurd h (by omega)
  | [k0, k1, k2, k3], t + 8, _, h => absurd h (by omega)
  | [k0, k1, k2, k3, k4], t + 8, _, h => absurd h (by omega)
  | [k0, k1, k2, k3, k4, k5], t + 8, _, h => absurd h (by omega)
  | [k0, k1, k2, k3, k4, k5, k6], t + 8, _, h => absurd h (by omega)
  | [k0, k1, k2, k3, k4, k5, k6, k7], t + 8, _, h => absurd h (by omega)
  | k0 :: k1 :: k2 :: k3 :: k4 :: k5 :: k6 :: k7 :: k8 :: r, t, h, _ => absurd h (by simp only [List.length_cons]; omega)
theorem allBL (n : Nat) : ∀ (ks : List Bool) (t : Nat), ks.length < 9 → t < 8 → allL n (bL (frsL true ks ++ [frL1 ks.isEmpty (kOf t)]) t) = zipW (outL (frsL true ks) ks.isEmpty t) lns (nth [] (cond ks.isEmpty tB1 tB2) t)
  | [], 0, _, _ => bL_0_0 n
  | [], 1, _, _ => bL_0_1 n
  | [], 2, _, _ => bL_0_2 n
  | [], 3, _, _ => bL_0_3 n
  | [], 4, _, _ => bL_0_4 n
  | [], 5, _, _ => bL_0_5 n
  | [], 6, _, _ => bL_0_6 n
  | [], 7, _, _ => bL_0_7 n
  | [k0], 0, _, _ => bL_1_0 n (frL1 true k0)
  | [k0], 1, _, _ => bL_1_1 n (frL1 true k0)
  | [k0], 2, _, _ => bL_1_2 n (frL1 true k0)
  | [k0], 3, _, _ => bL_1_3 n (frL1 true k0)
  | [k0], 4, _, _ => bL_1_4 n (frL1 true k0)
  | [k0], 5, _, _ => bL_1_5 n (frL1 true k0)
  | [k0], 6, _, _ => bL_1_6 n (frL1 true k0)
  | [k0], 7, _, _ => bL_1_7 n (frL1 true k0)
  | [k0, k1], 0, _, _ => bL_2_0 n (frL1 true k0) (frL1 false k1)
  | [k0, k1], 1, _, _ => bL_2_1 n (frL1 true k0) (frL1 false k1)
  | [k0, k1], 2, _, _ => bL_2_2 n (frL1 true k0) (frL1 false k1)
  | [k0, k1], 3, _, _ => bL_2_3 n (frL1 true k0) (frL1 false k1)
  | [k0, k1], 4, _, _ => bL_2_4 n (frL1 true k0) (frL1 false k1)
  | [k0, k1], 5, _, _ => bL_2_5 n (frL1 true k0) (frL1 false k1)
  | [k0, k1], 6, _, _ => bL_2_6 n (frL1 true k0) (frL1 false k1)
  | [k0, k1], 7, _, _ => bL_2_7 n (frL1 true k0) (frL1 false k1)
  | [k0, k1, k2], 0, _, _ => bL_3_0 n (frL1 true k0) (frL1 false k1) (frL1 false k2)
  | [k0, k1, k2], 1, _, _ => bL_3_1 n (frL1 true k0) (frL1 false k1) (frL1 false k2)
  | [k0, k1, k2], 2, _, _ => bL_3_2 n (frL1 true k0) (frL1 false k1) (frL1 false k2)
  | [k0, k1, k2], 3, _, _ => bL_3_3 n (frL1 true k0) (frL1 false k1) (frL1 false k2)
  | [k0, k1, k2], 4, _, _ => bL_3_4 n (frL1 true k0) (frL1 false k1) (frL1 false k2)
  | [k0, k1, k2], 5, _, _ => bL_3_5 n (frL1 true k0) (frL1 false k1) (frL1 false k2)
  | [k0, k1, k2], 6, _, _ => bL_3_6 n (frL1 true k0) (frL1 false k1) (frL1 false k2)
  | [k0, k1, k2], 7, _, _ => bL_3_7 n (frL1 true k0) (frL1 false k1) (frL1 false k2)
  | [k0, k1, k2, k3], 0, _, _ => bL_4_0 n (frL1 true k0) (frL1 false k1) (frL1 false k2) (frL1 false k3)
  | [k0, k1, k2, k3], 1, _, _ => bL_4_1 n (frL1 true k0) (frL1 false k1) (frL1 false k2) (frL1 false k3)
  | [k0, k1, k2, k3], 2, _, _ => bL_4_2 n (frL1 true k0) (frL1 false k1) (frL1 false k2) (frL1 false k3)
  | [k0, k1, k2, k3], 3, _, _ => bL_4_3 n (frL1 true k0) (frL1 false k1) (frL1 false k2) (frL1 false k3)
  | [k0, k1, k2, k3], 4, _, _ => bL_4_4 n (frL1 true k0) (frL1 false k1) (frL1 false k2) (frL1 false k3)
  | [k0, k1, k2, k3], 5, _, _ => bL_4_5 n (frL1 true k0) (frL1 false k1) (frL1 false k2) (frL1 false k3)
  | [k0, k1, k2, k3], 6, _, _ => bL_4_6 n (frL1 true k0) (frL1 false k1) (frL1 false k2) (frL1 false k3)
  | [k0, k1, k2, k3], 7, _, _ => bL_4_7 n (frL1 true k0) (frL1 false k1) (frL1 false k2) (frL1 false k3)
  | [k0, k1, k2, k3, k4], 0, _, _ => bL_5_0 n (frL1 true k0) (frL1 false k1) (frL1 false k2) (frL1 false k3) (frL1 false k4)
  | [k0, k1, k2, k3, k4], 1, _, _ => bL_5_1 n (frL1 true k0) (frL1 false k1) (frL1 false k2) (frL1 false k3) (frL1 false k4)
  | [k0, k1, k2, k3, k4], 2, _, _ => bL_5_2 n (frL1 true k0) (frL1 false k1) (frL1 false k2) (frL1 false k3) (frL1 false k4)
  | [k0, k1, k2, k3, k4], 3, _, _ => bL_5_3 n (frL1 true k0) (frL1 false k1) (frL1 false k2) (frL1 false k3) (frL1 false k4)
  | [k0, k1, k2, k3, k4], 4, _, _ => bL_5_4 n (frL1 true k0) (frL1 false k1) (frL1 false k2) (frL1 false k3) (frL1 false k4)
  | [k0, k1, k2, k3, k4], 5, _, _ => bL_5_5 n (frL1 true k0) (frL1 false k1) (frL1 false k2) (frL1 false k3) (frL1 false k4)
  | [k0, k1, k2, k3, k4], 6, _, _ => bL_5_6 n (frL1 true k0) (frL1 false k1) (frL1 false k2) (frL1 false k3) (frL1 false k4)
  | [k0, k1, k2, k3, k4], 7, _, _ => bL_5_7 n (frL1 true k0) (frL1 false k1) (frL1 false k2) (frL1 false k3) (frL1 false k4)
  | [k0, k1, k2, k3, k4, k5], 0, _, _ => bL_6_0 n (frL1 true k0) (frL1 false k1) (frL1 false k2) (frL1 false k3) (frL1 false k4) (frL1 false k5)
  | [k0, k1, k2, k3, k4, k5], 1, _, _ => bL_6_1 n (frL1 true k0) (frL1 false k1) (frL1 false k2) (frL1 false k3) (frL1 false k4) (frL1 false k5)
  | [k0, k1, k2, k3, k4, k5], 2, _, _ => bL_6_2 n (frL1 true k0) (frL1 false k1) (frL1 false k2) (frL1 false k3) (frL1 false k4) (frL1 false k5)
  | [k0, k1, k2, k3, k4, k5], 3, _, _ => bL_6_3 n (frL1 true k0) (frL1 false k1) (frL1 false k2) (frL1 false k3) (frL1 false k4) (frL1 false k5)
  | [k0, k1, k2, k3, k4, k5], 4, _, _ => bL_6_4 n (frL1 true k0) (frL1 false k1) (frL1 false k2) (frL1 false k3) (frL1 false k4) (frL1 false k5)
  | [k0, k1, k2, k3, k4, k5], 5, _, _ => bL_6_5 n (frL1 true k0) (frL1 false k1) (frL1 false k2) (frL1 false k3) (frL1 false k4) (frL1 false k5)
  | [k0, k1, k2, k3, k4, k5], 6, _, _ => bL_6_6 n (frL1 true k0) (frL1 false k1) (frL1 false k2) (frL1 false k3) (frL1 false k4) (frL1 false k5)
  | [k0, k1, k2, k3, k4, k5], 7, _, _ => bL_6_7 n (frL1 true k0) (frL1 false k1) (frL1 false k2) (frL1 false k3) (frL1 false k4) (frL1 false k5)
  | [k0, k1, k2, k3, k4, k5, k6], 0, _, _ => bL_7_0 n (frL1 true k0) (frL1 false k1) (frL1 false k2) (frL1 false k3) (frL1 false k4) (frL1 false k5) (frL1 false k6)
  | [k0, k1, k2, k3, k4, k5, k6], 1, _, _ => bL_7_1 n (frL1 true k0) (frL1 false k1) (frL1 false k2) (frL1 false k3) (frL1 false k4) (frL1 false k5) (frL1 false k6)
  | [k0, k1, k2, k3, k4, k5, k6], 2, _, _ => bL_7_2 n (frL1 true k0) (frL1 false k1) (frL1 false k2) (frL1 false k3) (frL1 false k4) (frL1 false k5) (frL1 false k6)
  | [k0, k1, k2, k3, k4, k5, k6], 3, _, _ => bL_7_3 n (frL1 true k0) (frL1 false k1) (frL1 false k2) (frL1 false k3) (frL1 false k4) (frL1 false k5) (frL1 false k6)
  | [k0, k1, k2, k3, k4, k5, k6], 4, _, _ => bL_7_4 n (frL1 true k0) (frL1 false k1) (frL1 false k2) (frL1 false k3) (frL1 false k4) (frL1 false k5) (frL1 false k6)
  | [k0, k1, k2, k3, k4, k5, k6], 5, _, _ => bL_7_5 n (frL1 true k0) (frL1 false k1) (frL1 false k2) (frL1 false k3) (frL1 false k4) (frL1 false k5) (frL1 false k6)
  | [k0, k1, k2, k3, k4, k5, k6], 6, _, _ => bL_7_6 n (frL1 true k0) (frL1 false k1) (frL1 false k2) (frL1 false k3) (frL1 false k4) (frL1 false k5) (frL1 false k6)
  | [k0, k1, k2, k3, k4, k5, k6], 7, _, _ => bL_7_7 n (frL1 true k0) (frL1 false k1) (frL1 false k2) (frL1 false k3) (frL1 false k4) (frL1 false k5) (frL1 false k6)
  | [k0, k1, k2, k3, k4, k5, k6, k7], 0, _, _ => bL_8_0 n (frL1 true k0) (frL1 false k1) (frL1 false k2) (frL1 false k3) (frL1 false k4) (frL1 false k5) (frL1 false k6) (frL1 false k7)
  | [k0, k1, k2, k3, k4, k5, k6, k7], 1, _, _ => bL_8_1 n (frL1 true k0) (frL1 false k1) (frL1 false k2) (frL1 false k3) (frL1 false k4) (frL1 false k5) (frL1 false k6) (frL1 false k7)
  | [k0, k1, k2, k3, k4, k5, k6, k7], 2, _, _ => bL_8_2 n (frL1 true k0) (frL1 false k1) (frL1 false k2) (frL1 false k3) (frL1 false k4) (frL1 false k5) (frL1 false k6) (frL1 false k7)
  | [k0, k1, k2, k3, k4, k5, k6, k7], 3, _, _ => bL_8_3 n (frL1 true k0) (frL1 false k1) (frL1 false k2) (frL1 false k3) (frL1 false k4) (frL1 false k5) (frL1 false k6) (frL1 false k7)
  | [k0, k1, k2, k3, k4, k5, k6, k7], 4, _, _ => bL_8_4 n (frL1 true k0) (frL1 false k1) (frL1 false k2) (frL1 false k3) (frL1 false k4) (frL1 false k5) (frL1 false k6) (frL1 false k7)
  | [k0, k1, k2, k3, k4, k5, k6, k7], 5, _, _ => bL_8_5 n (frL1 true k0) (frL1 false k1) (frL1 false k2) (frL1 false k3) (frL1 false k4) (frL1 false k5) (frL1 false k6) (frL1 false k7)
  | [k0, k1, k2, k3, k4, k5, k6, k7], 6, _, _ => bL_8_6 n (frL1 true k0) (frL1 false k1) (frL1 false k2) (frL1 false k3) (frL1 false k4) (frL1 false k5) (frL1 false k6) (frL1 false k7)
  | [k0, k1, k2, k3, k4, k5, k6, k7], 7, _, _ => bL_8_7 n (frL1 true k0) (frL1 false k1) (frL1 false k2) (frL1 false k3) (frL1 false k4) (frL1 false k5) (frL1 false k6) (frL1 false k7)
  | [], t + 8, _, h => absurd h (by omega)
  | [k0], t + 8, _, h => absurd h (by omega)
  | [k0, k1], t + 8, _, h => absurd h (by omega)
  | [k0, k1, k2], t + 8, _, h => absurd h (by omega)
  | [k0, k1, k2, k3], t + 8, _, h => absurd h (by omega)
  | [k0, k1, k2, k3, k4], t + 8, _, h => absurd h (by omega)
  | [k0, k1, k2, k3, k4, k5], t + 8, _, h => absurd h (by omega)
  | [k0, k1, k2, k3, k4, k5, k6], t + 8, _, h => absurd h (by omega)
  | [k0, k1, k2, k3, k4, k5, k6, k7], t + 8, _, h => absurd h (by omega)
  | k0 :: k1 :: k2 :: k3 :: k4 :: k5 :: k6 :: k7 :: k8 :: r, t, h, _ => absurd h (by simp only [List.length_cons]; omega)
theorem popP_eq {ks : List Bool} (h : ks.isEmpty = false) : popP (frsP true ks) = stP (popS ks) := by
  obtain ⟨r, k, rfl⟩ : ∃ r k, ks = r ++ [k] := ⟨ks.dropLast, ks.getLast (by intro z; rw [z] at h; cases h), (List.dropLast_concat_getLast _).symm⟩
  unfold popS
  rw [List.dropLast_concat, List.getLastD_concat, frsP_app, Bool.true_and]
  cases k <;> rfl
theorem popL_eq {ks : List Bool} (h : ks.isEmpty = false) : popL (frsL true ks) = stL (popS ks) := by
  obtain ⟨r, k, rfl⟩ : ∃ r k, ks = r ++ [k] := ⟨ks.dropLast, ks.getLast (by intro z; rw [z] at h; cases h), (List.dropLast_concat_getLast _).symm⟩
  unfold popS
  rw [List.dropLast_concat, List.getLastD_concat, frsL_app, Bool.true_and]
  cases k <;> rfl
theorem isE_app {ks : List Bool} {k : Bool} : (ks ++ [k]).isEmpty = false := by cases ks <;> rfl
theorem lns_len : lns.length = 27 := by kernel_rfl
theorem at_P {n : Nat} {st : D} {xs : List D} {bot : Bool} {t j : Nat} {row : List LO} (h : allP n st = zipW (outP xs bot t) lns row) (hj : j < 27) (hr : row.length = 27) : runP n st (nth [] lns j) 0 = outP xs bot t (nth [] lns j) (nth (.err 0) row j) := by
  have e := congrArg (fun l => nth (none, 0) l j) h
  unfold allP at e
  rw [nth_map (d' := []) (by rw [lns_len]; exact hj), nth_zipW (da := []) (db := .err 0) (by rw [lns_len]; exact hj) (by rw [hr]; exact hj)] at e
  exact e
theorem at_L {n : Nat} {st : D × D} {xs : List D} {bot : Bool} {t j : Nat} {row : List LO} (h : allL n st = zipW (outL xs bot t) lns row) (hj : j < 27) (hr : row.length = 27) : runL n st (nth [] lns j) 0 = outL xs bot t (nth [] lns j) (nth (.err 0) row j) := by
  have e := congrArg (fun l => nth (none, 0) l j) h
  unfold allL at e
  rw [nth_map (d' := []) (by rw [lns_len]; exact hj), nth_zipW (da := []) (db := .err 0) (by rw [lns_len]; exact hj) (by rw [hr]; exact hj)] at e
  exact e
/-- one line, of the program, of the law -/
theorem line_P (n : Nat) {s : LS} {j : Nat} (h : okS 9 s) (hj : j < 27) : runP n (stP s) (nth [] lns j) 0 = outS (nth [] lns j) (stepS s j) := by
  have h0 := stepO h hj
  have hl := (rowS_ok h).1
  cases s with
  | n i =>
    have e := at_P (allNP n i h) hj hl
    unfold stepS
    show runP n (nth .non nP i) _ 0 = _
    rw [e]
    change okO 0 (nth (.err 0) (nth [] tN i) j) = true at h0
    show outP [] true 0 (nth [] lns j) (nth (.err 0) (nth [] tN i) j) = outS _ (goS (.n i) (nth (.err 0) (nth [] tN i) j))
    generalize nth (.err 0) (nth [] tN i) j = o at h0 ⊢
    cases o <;> first | rfl | cases h0
  | b ks t =>
    have e := at_P (allBP n ks t h.2 h.1) hj hl
    unfold stepS
    show runP n (bP (frsP true ks ++ [frP1 ks.isEmpty (kOf t)]) t) _ 0 = _
    rw [e]
    show outP (frsP true ks) ks.isEmpty t (nth [] lns j) (nth (.err 0) (rowS (.b ks t)) j) = outS _ (goS (.b ks t) (nth (.err 0) (rowS (.b ks t)) j))
    generalize nth (.err 0) (rowS (.b ks t)) j = o at h0 ⊢
    cases o with
    | err c => rfl
    | n i => rfl
    | b t' => rfl
    | stay t' => rfl
    | push t' =>
      show (some (bP (frsP true ks ++ [frP1 ks.isEmpty (kOf t), frP1 false (kOf t')]) t'), _) = (some (bP (frsP true (ks ++ [kOf t]) ++ [frP1 (ks ++ [kOf t]).isEmpty (kOf t')]) t'), _)
      rw [frsP_app, isE_app, Bool.true_and, List.append_assoc]
      rfl
    | pop =>
      have hk : ks.isEmpty = false := by
        cases ks with
        | nil => cases h0
        | cons k r => rfl
      show (some (popP (frsP true ks)), _) = (some (stP (popS ks)), _)
      rw [popP_eq hk]
theorem line_L (n : Nat) {s : LS} {j : Nat} (h : okS 9 s) (hj : j < 27) : runL n (stL s) (nth [] lns j) 0 = outSL (nth [] lns j) (stepS s j) := by
  have h0 := stepO h hj
  have hl := (rowS_ok h).1
  cases s with
  | n i =>
    have e := at_L (allNL n i h) hj hl
    unfold stepS
    show runL n (nth (.non, .non) nL i) _ 0 = _
    rw [e]
    change okO 0 (nth (.err 0) (nth [] tN i) j) = true at h0
    show outL [] true 0 (nth [] lns j) (nth (.err 0) (nth [] tN i) j) = outSL _ (goS (.n i) (nth (.err 0) (nth [] tN i) j))
    generalize nth (.err 0) (nth [] tN i) j = o at h0 ⊢
    cases o <;> first | rfl | cases h0
  | b ks t =>
    have e := at_L (allBL n ks t h.2 h.1) hj hl
    unfold stepS
    show runL n (bL (frsL true ks ++ [frL1 ks.isEmpty (kOf t)]) t) _ 0 = _
    rw [e]
    show outL (frsL true ks) ks.isEmpty t (nth [] lns j) (nth (.err 0) (rowS (.b ks t)) j) = outSL _ (goS (.b ks t) (nth (.err 0) (rowS (.b ks t)) j))
    generalize nth (.err 0) (rowS (.b ks t)) j = o at h0 ⊢
    cases o with
    | err c => rfl
    | n i => rfl
    | b t' => rfl
    | stay t' => rfl
    | push t' =>
      show (some (bL (frsL true ks ++ [frL1 ks.isEmpty (kOf t), frL1 false (kOf t')]) t'), _) = (some (bL (frsL true (ks ++ [kOf t]) ++ [frL1 (ks ++ [kOf t]).isEmpty (kOf t')]) t'), _)
      rw [frsL_app, isE_app, Bool.true_and, List.append_assoc]
      rfl
    | pop =>
      have hk : ks.isEmpty = false := by
        cases ks with
        | nil => cases h0
        | cons k r => rfl
      show (some (popL (frsL true ks)), _) = (some (stL (popS ks)), _)
      rw [popL_eq hk]
end Rp
namespace Rp
open PySem PySem.Spec PyProof.Rows L2
def ln (j : Nat) : List Ch := nth [] lns j
def textS (js : List Nat) : List Ch := (js.map ln).flatten
def lenS (js : List Nat) : Nat := (textS js).length
theorem len_eq : ∀ l : List Ch, len l = l.length
  | [] => rfl
  | _ :: r => congrArg Nat.succ (len_eq r)
theorem ln_all : zipW (fun a b : List Ch => beqS (a ++ [c10]) b && Nat.blt a.length 20) lines lns = List.replicate 27 true := by kernel_rfl
theorem lines_len : lines.length = 27 := by kernel_rfl
theorem ln_split {j : Nat} (h : j < 27) : ln j = lnT j ++ [c10] ∧ (lnT j).length < 20 := by
  have e : nth false _ j = nth false _ j := congrArg (fun l => nth false l j) ln_all
  rw [nth_zipW (da := []) (db := []) (by rw [lines_len]; exact h) (by rw [lns_len]; exact h)] at e
  have e2 : nth false (List.replicate 27 true) j = true := by
    match j, h with
    | 0, _ | 1, _ | 2, _ | 3, _ | 4, _ | 5, _ | 6, _ | 7, _ | 8, _ | 9, _ | 10, _ | 11, _ | 12, _ | 13, _ | 14, _ | 15, _ | 16, _ | 17, _ | 18, _ | 19, _ | 20, _ | 21, _ | 22, _ | 23, _ | 24, _ | 25, _ | 26, _ => rfl
    | n + 27, h => omega
  rw [e2] at e
  obtain ⟨h1, h2⟩ := Bool.and_eq_true_iff.mp e
  exact ⟨(beqS_iff.mp h1).symm, blt_lt h2⟩
theorem ln_len {j : Nat} (h : j < 27) : (ln j).length = (lnT j).length + 1 ∧ (ln j).length ≤ 20 := by
  obtain ⟨h1, h2⟩ := ln_split h
  rw [h1, List.length_append]
  exact ⟨rfl, by show (lnT j).length + 1 ≤ 20; omega⟩
theorem runS_inl {s s' : LS} {j : Nat} {js : List Nat} (h : stepS s j = .inl s') : runS s (j :: js) = match runS s' js with
    | .inl t => .inl t
    | .inr p => .inr (p.1 + 1, p.2) := by
  show ((match stepS s j with
    | Sum.inr c => Sum.inr (0, c)
    | Sum.inl s' => match runS s' js with
      | Sum.inl t => Sum.inl t
      | Sum.inr p => Sum.inr (p.1 + 1, p.2)) : Sum LS (Nat × Nat)) = _
  rw [h]
theorem runS_inr {s : LS} {j c : Nat} {js : List Nat} (h : stepS s j = .inr c) : runS s (j :: js) = .inr (0, c) := by
  show ((match stepS s j with
    | Sum.inr c => Sum.inr (0, c)
    | Sum.inl s' => match runS s' js with
      | Sum.inl t => Sum.inl t
      | Sum.inr p => Sum.inr (p.1 + 1, p.2)) : Sum LS (Nat × Nat)) = _
  rw [h]
/-- the place in the text -/
def posS (js : List Nat) (p : Nat × Nat) : Nat := lenS (js.take p.1) + p.2
theorem runP_cons (n : Nat) (st : D) (c : Ch) (cs : List Ch) (k : Nat) : runP n st (c :: cs) k = match FM (n + 15) 27 [st, .str [c]] with
    | some .non => (none, k)
    | some s => runP n s cs (k + 1)
    | none => (none, 9999) := rfl
theorem runL_cons (n : Nat) (st : D × D) (c : Ch) (cs : List Ch) (k : Nat) : runL n st (c :: cs) k = match FM (n + 15) 51 [st.1, st.2, .str [c]] with
    | some .non => (none, k)
    | some (.tup [a, b]) => runL n (a, b) cs (k + 1)
    | _ => (none, 9999) := rfl
theorem runP_shift (n d : Nat) : ∀ (cs : List Ch) (st : D) (k : Nat), (runP n st cs k).2 ≠ 9999 → runP n st cs (k + d) = ((runP n st cs k).1, (runP n st cs k).2 + d)
  | [], st, k, _ => rfl
  | c :: cs, st, k, h => by
    rw [runP_cons] at h ⊢
    rw [runP_cons]
    cases e : FM (n + 15) 27 [st, .str [c]] with
    | none => rw [e] at h; exact absurd rfl h
    | some x =>
      rw [e] at h
      have e2 : k + d + 1 = (k + 1) + d := by omega
      cases x <;> first | rfl | (simp only [e2]; exact runP_shift n d cs _ (k + 1) h)
theorem runL_shift (n d : Nat) : ∀ (cs : List Ch) (st : D × D) (k : Nat), (runL n st cs k).2 ≠ 9999 → runL n st cs (k + d) = ((runL n st cs k).1, (runL n st cs k).2 + d)
  | [], st, k, _ => rfl
  | c :: cs, st, k, h => by
    rw [runL_cons] at h ⊢
    rw [runL_cons]
    have e2 : k + d + 1 = (k + 1) + d := by omega
    split at h
    · rfl
    · simp only [e2]
      exact runL_shift n d cs _ (k + 1) h
    · exact absurd rfl h
theorem runP_app (n : Nat) (b : List Ch) : ∀ (cs : List Ch) (st st' : D) (k k' : Nat), runP n st cs k = (some st', k') → runP n st (cs ++ b) k = runP n st' b k'
  | [], st, st', k, k', h => by
    cases (show (some st, k) = (some st', k') from h)
    rfl
  | c :: cs, st, st', k, k', h => by
    rw [runP_cons] at h
    show runP n st (c :: (cs ++ b)) k = _
    rw [runP_cons]
    split at h
    · cases h
    · exact runP_app n b cs _ st' (k + 1) k' h
    · cases h
theorem runP_none (n : Nat) (b : List Ch) : ∀ (cs : List Ch) (st : D) (k k' : Nat), runP n st cs k = (none, k') → runP n st (cs ++ b) k = (none, k')
  | [], st, k, k', h => by cases (show (some st, k) = (none, k') from h)
  | c :: cs, st, k, k', h => by
    rw [runP_cons] at h
    show runP n st (c :: (cs ++ b)) k = _
    rw [runP_cons]
    split at h
    · exact h
    · exact runP_none n b cs _ (k + 1) k' h
    · exact h
theorem runL_app (n : Nat) (b : List Ch) : ∀ (cs : List Ch) (st st' : D × D) (k k' : Nat), runL n st cs k = (some st', k') → runL n st (cs ++ b) k = runL n st' b k'
  | [], st, st', k, k', h => by
    cases (show (some st, k) = (some st', k') from h)
    rfl
  | c :: cs, st, st', k, k', h => by
    rw [runL_cons] at h
    show runL n st (c :: (cs ++ b)) k = _
    rw [runL_cons]
    split at h
    · cases h
    · exact runL_app n b cs _ st' (k + 1) k' h
    · cases h
theorem runL_none (n : Nat) (b : List Ch) : ∀ (cs : List Ch) (st : D × D) (k k' : Nat), runL n st cs k = (none, k') → runL n st (cs ++ b) k = (none, k')
  | [], st, k, k', h => by cases (show (some st, k) = (none, k') from h)
  | c :: cs, st, k, k', h => by
    rw [runL_cons] at h
    show runL n st (c :: (cs ++ b)) k = _
    rw [runL_cons]
    split at h
    · exact h
    · exact runL_none n b cs _ (k + 1) k' h
    · exact h
theorem okS_mono {m m' : Nat} {s : LS} (h : okS m s) (hm : m ≤ m') : okS m' s := by
  cases s with
  | n i => exact h
  | b ks t => exact ⟨h.1, Nat.lt_of_lt_of_le h.2 hm⟩
theorem textS_cons (j : Nat) (js : List Nat) : textS (j :: js) = ln j ++ textS js := by unfold textS; rw [List.map_cons, List.flatten_cons]
/-- the program over some lines -/
theorem run_P (n : Nat) : ∀ (js : List Nat) (s : LS) (m k : Nat), okS m s → m + js.length ≤ 10 → Lines js →
    runP n (stP s) (textS js) k = match runS s js with
      | .inl t => (some (stP t), k + lenS js)
      | .inr p => (none, k + posS js p)
  | [], s, m, k, _, _, _ => rfl
  | j :: js, s, m, k, h, hl, hj => by
    have hj0 : j < 27 := hj j (List.mem_cons_self ..)
    simp only [List.length_cons] at hl
    have e1 : runP n (stP s) (ln j) 0 = outS (ln j) (stepS s j) := line_P n (okS_mono h (show m ≤ 9 by omega)) hj0
    obtain ⟨l1, l2⟩ := ln_len hj0
    rw [textS_cons]
    cases es : stepS s j with
    | inr c =>
      rw [es] at e1
      rw [runS_inr es]
      have e2 : runP n (stP s) (ln j) 0 = (none, c) := e1
      have hc := stepS_err h hj0 es
      have e3 := runP_shift n k (ln j) (stP s) 0 (by rw [e2]; show c ≠ 9999; omega)
      rw [e2, Nat.zero_add] at e3
      rw [runP_none n _ _ _ _ _ e3]
      show (none, c + k) = (none, k + (0 + c))
      rw [Nat.zero_add, Nat.add_comm]
    | inl s' =>
      rw [es] at e1
      rw [runS_inl es]
      have e2 : runP n (stP s) (ln j) 0 = (some (stP s'), len (ln j)) := e1
      have e3 := runP_shift n k (ln j) (stP s) 0 (by rw [e2]; show len (ln j) ≠ 9999; rw [len_eq]; omega)
      rw [e2, Nat.zero_add, len_eq] at e3
      rw [runP_app n _ _ _ _ _ _ e3, run_P n js s' (m + 1) _ (stepS_ok h hj0 es) (by omega) (fun i hi => hj i (List.mem_cons_of_mem _ hi))]
      cases er : runS s' js with
      | inl t =>
        show (some (stP t), (ln j).length + k + lenS js) = (some (stP t), k + lenS (j :: js))
        unfold lenS
        rw [textS_cons, List.length_append]
        congr 1
        omega
      | inr p =>
        show (none, (ln j).length + k + posS js p) = (none, k + posS (j :: js) (p.1 + 1, p.2))
        unfold posS lenS
        show (none, (ln j).length + k + ((textS (js.take p.1)).length + p.2)) = (none, k + ((textS (j :: js.take p.1)).length + p.2))
        rw [textS_cons, List.length_append]
        congr 1
        omega
theorem run_L (n : Nat) : ∀ (js : List Nat) (s : LS) (m k : Nat), okS m s → m + js.length ≤ 10 → Lines js →
    runL n (stL s) (textS js) k = match runS s js with
      | .inl t => (some (stL t), k + lenS js)
      | .inr p => (none, k + posS js p)
  | [], s, m, k, _, _, _ => rfl
  | j :: js, s, m, k, h, hl, hj => by
    have hj0 : j < 27 := hj j (List.mem_cons_self ..)
    simp only [List.length_cons] at hl
    have e1 : runL n (stL s) (ln j) 0 = outSL (ln j) (stepS s j) := line_L n (okS_mono h (show m ≤ 9 by omega)) hj0
    obtain ⟨l1, l2⟩ := ln_len hj0
    rw [textS_cons]
    cases es : stepS s j with
    | inr c =>
      rw [es] at e1
      rw [runS_inr es]
      have e2 : runL n (stL s) (ln j) 0 = (none, c) := e1
      have hc := stepS_err h hj0 es
      have e3 := runL_shift n k (ln j) (stL s) 0 (by rw [e2]; show c ≠ 9999; omega)
      rw [e2, Nat.zero_add] at e3
      rw [runL_none n _ _ _ _ _ e3]
      show (none, c + k) = (none, k + (0 + c))
      rw [Nat.zero_add, Nat.add_comm]
    | inl s' =>
      rw [es] at e1
      rw [runS_inl es]
      have e2 : runL n (stL s) (ln j) 0 = (some (stL s'), len (ln j)) := e1
      have e3 := runL_shift n k (ln j) (stL s) 0 (by rw [e2]; show len (ln j) ≠ 9999; rw [len_eq]; omega)
      rw [e2, Nat.zero_add, len_eq] at e3
      rw [runL_app n _ _ _ _ _ _ e3, run_L n js s' (m + 1) _ (stepS_ok h hj0 es) (by omega) (fun i hi => hj i (List.mem_cons_of_mem _ hi))]
      cases er : runS s' js with
      | inl t =>
        show (some (stL t), (ln j).length + k + lenS js) = (some (stL t), k + lenS (j :: js))
        unfold lenS
        rw [textS_cons, List.length_append]
        congr 1
        omega
      | inr p =>
        show (none, (ln j).length + k + posS js p) = (none, k + posS (j :: js) (p.1 + 1, p.2))
        unfold posS lenS
        show (none, (ln j).length + k + ((textS (js.take p.1)).length + p.2)) = (none, k + ((textS (j :: js.take p.1)).length + p.2))
        rw [textS_cons, List.length_append]
        congr 1
        omega
end Rp
namespace Rp
open PySem PySem.Spec PyProof.Rows L2
section
variable {ρ ρ' : Ev} {d x y : D} {ds : List D} {a b : KC} {es : Ev → Option (List D)} {s r : KS}
theorem kCons_ok (h : a ρ = some d) (h2 : es ρ = some ds) : kCons a es ρ = some (d :: ds) := by unfold kCons; rw [h, h2]
theorem kTup_ok (h : es ρ = some ds) (h2 : fit ds.length = true) : kTup es ρ = some (.tup ds) := by unfold kTup; simp only [h, h2]
theorem kRet_ok (h : a ρ = some d) : kRet a ρ = some (.inr d) := by unfold kRet; rw [h]
theorem kSet_ok {i : Nat} (h : a ρ = some d) : kSet i a ρ = some (.inl (ρ.set i (some d))) := by unfold kSet; rw [h]
theorem kSets_ok {is : List Nat} (h : a ρ = some (.tup ds)) (h2 : setsD is ds ρ = some ρ') : kSets is a ρ = some (.inl ρ') := by unfold kSets; rw [h]; simp only [h2]
theorem kS_r (h : s ρ = some (.inr d)) : kSCons s r ρ = some (.inr d) := by unfold kSCons; rw [h]
theorem kS_l (h : s ρ = some (.inl ρ')) : kSCons s r ρ = r ρ' := by unfold kSCons; rw [h]
theorem kCall_ok {F : Ft} {f : Nat} (h : es ρ = some ds) (h2 : F f ds = some d) : kCall F f es ρ = some d := by unfold kCall; rw [h]; exact h2
theorem kIff_f {t : KC} {s2 : KS} (h : t ρ = some (.bl false)) : kIff t s s2 ρ = s2 ρ := by unfold kIff; rw [h]
theorem kBin_ok {o : Op} (h : a ρ = some x) (h2 : b ρ = some y) (h3 : appOp o x y = some d) : kBin o a b ρ = some d := by unfold kBin; rw [h, h2]; exact h3
theorem kIx_ok (h : a ρ = some x) (h2 : b ρ = some y) (h3 : ixD x y = some d) : kIx a b ρ = some d := by unfold kIx; rw [h, h2]; exact h3
theorem kF1_ok {f : Fn1} (h : a ρ = some x) (h3 : app1 f x = some d) : kF1 f a ρ = some d := by unfold kF1; rw [h]; exact h3
theorem kLcomp_ok {i : Nat} {it t e : KC} {xs ys : List D} (h : it ρ = some x) (h2 : itemsD x = some xs) (h3 : fit xs.length = true) (h4 : compD (wipeD ρ i) i (fun r => t r) (fun r => e r) xs = some ys) : kLcomp i it t e ρ = some (.lst ys) := by
  unfold kLcomp
  simp only [h, h2, h3, h4]
  rfl
theorem len_ok {cs : List Ch} (hz : fit cs.length = true) : app1 .len (.str cs) = some (.int cs.length) := by
  show (match fit cs.length with
    | true => some (D.int cs.length)
    | false => none) = _
  rw [hz]
end
theorem call28 (m : Nat) (a b : D) : FF (m + 1) 28 [a, b] = outD (m_state_behind (FF m) [some a, some b, none, none, none]) := by
  rw [← FM_eq (m + 1), ← FM_eq m]
  rfl
def bodySB (F : Ft) : KS := (kSCons (kSet 4 (kCall F 27 (kCons (kVar 0) (kCons (kVar 3) kNil)))) (kSCons (kIff (kIsN (kVar 4)) (kSCons (kRet (kTup (kCons (kCst D.non) (kCons (kVar 2) kNil)))) kSNil) kSNil) (kSCons (kSet 0 (kVar 4)) kSNil)))
theorem bodySB_ok {F : Ft} {a b x2 x3 d : D} {x4 : Option D} (h : F 27 [a, x3] = some d) : bodySB F [some a, some b, some x2, some x3, x4] = (match d with
    | .non => some (.inr (.tup [.non, x2]))
    | d => some (.inl [some d, some b, some x2, some x3, some d])) := by
  unfold bodySB
  have e : kSet 4 (kCall F 27 (kCons (kVar 0) (kCons (kVar 3) kNil))) [some a, some b, some x2, some x3, x4] = some (.inl [some a, some b, some x2, some x3, some d]) := by
    show (match F 27 [a, x3] with
      | some d => some (Sum.inl ([some a, some b, some x2, some x3, x4].set 4 (some d)))
      | none => none) = _
    rw [h]
    rfl
  show (match kSet 4 (kCall F 27 (kCons (kVar 0) (kCons (kVar 3) kNil))) [some a, some b, some x2, some x3, x4] with
    | some (.inl ρ') => kSCons (kIff (kIsN (kVar 4)) (kSCons (kRet (kTup (kCons (kCst D.non) (kCons (kVar 2) kNil)))) kSNil) kSNil) (kSCons (kSet 0 (kVar 4)) kSNil) ρ'
    | some (.inr d) => some (.inr d)
    | none => none) = _
  rw [e]
  cases d <;> rfl
theorem loopSB {n : Nat} {b : D} : ∀ (cs : List Ch) (a : D) (k : Nat) (x2 x3 x4 : Option D), (runP n a cs k).2 ≠ 9999 →
    ∃ y2 y3 y4, forE 2 3 (fun r => bodySB (FF (n + 15)) r) cs k [some a, some b, x2, x3, x4] = match (runP n a cs k).1 with
      | some a' => some (.inl [some a', some b, y2, y3, y4])
      | none => some (.inr (.tup [.non, .int (runP n a cs k).2]))
  | [], a, k, x2, x3, x4, _ => ⟨x2, x3, x4, rfl⟩
  | c :: cs, a, k, x2, x3, x4, h => by
    rw [runP_cons] at h ⊢
    rw [FM_eq] at h ⊢
    cases e : FF (n + 15) 27 [a, .str [c]] with
    | none => rw [e] at h; exact absurd rfl h
    | some d =>
      rw [e] at h
      have hb := bodySB_ok (b := b) (x2 := .int (k : Int)) (x4 := x4) e
      have step : forE 2 3 (fun r => bodySB (FF (n + 15)) r) (c :: cs) k [some a, some b, x2, x3, x4] = match bodySB (FF (n + 15)) [some a, some b, some (.int (k : Int)), some (.str [c]), x4] with
        | some (.inl ρ') => forE 2 3 (fun r => bodySB (FF (n + 15)) r) cs (k + 1) ρ'
        | some (.inr d) => some (.inr d)
        | none => none := rfl
      rw [step, hb]
      cases d with
      | non => exact ⟨x2, x3, x4, rfl⟩
      | bl z => exact loopSB cs _ (k + 1) _ _ _ h
      | int z => exact loopSB cs _ (k + 1) _ _ _ h
      | str z => exact loopSB cs _ (k + 1) _ _ _ h
      | tup z => exact loopSB cs _ (k + 1) _ _ _ h
      | lst z => exact loopSB cs _ (k + 1) _ _ _ h
      | dic z1 z2 => exact loopSB cs _ (k + 1) _ _ _ h
      | ins z1 z2 => exact loopSB cs _ (k + 1) _ _ _ h
theorem behind_ok {n : Nat} {a : D} {cs : List Ch} (h : (runP n a cs 0).2 ≠ 9999) (hz : fit cs.length = true) : FF (n + 16) 28 [a, .str cs] = some (match (runP n a cs 0).1 with
    | some a' => .tup [a', .int cs.length]
    | none => .tup [.non, .int (runP n a cs 0).2]) := by
  rw [call28]
  obtain ⟨y2, y3, y4, e⟩ := loopSB (b := .str cs) cs a 0 none none none h
  have e2 : m_state_behind (FF (n + 15)) [some a, some (.str cs), none, none, none] = match forE 2 3 (fun r => bodySB (FF (n + 15)) r) cs 0 [some a, some (.str cs), none, none, none] with
    | some (.inl ρ') => kSCons (kRet (kTup (kCons (kVar 0) (kCons (kF1 Fn1.len (kVar 1)) kNil)))) kSNil ρ'
    | some (.inr d) => some (.inr d)
    | none => none := rfl
  rw [e2, e]
  cases (runP n a cs 0).1 with
  | none => rfl
  | some a' =>
    have hl : kF1 Fn1.len (kVar 1) [some a', some (.str cs), y2, y3, y4] = some (.int cs.length) := kF1_ok (x := .str cs) rfl (len_ok hz)
    show outD (kSCons (kRet (kTup (kCons (kVar 0) (kCons (kF1 Fn1.len (kVar 1)) kNil)))) kSNil [some a', some (.str cs), y2, y3, y4]) = _
    rw [kS_r (kRet_ok (kTup_ok (kCons_ok (d := a') rfl (kCons_ok hl rfl)) rfl))]
    rfl
theorem call53 (m : Nat) (a : D) : FF (m + 1) 53 [a] = outD (m__law_run (FF m) [some a, none, none, none, none]) := by
  rw [← FM_eq (m + 1), ← FM_eq m]
  rfl
def bodyLR (F : Ft) : KS := (kSCons (kSet 4 (kCall F 51 (kCons (kVar 1) (kCons (kVar 2) (kCons (kIx (kVar 0) (kVar 3)) kNil))))) (kSCons (kIff (kIsN (kVar 4)) (kSCons (kRet (kTup (kCons (kCst D.non) (kCons (kCst D.non) (kCons (kVar 3) kNil))))) kSNil) kSNil) (kSCons (kSets [1, 2] (kVar 4)) kSNil)))
theorem ix_str {tx : List Ch} {k : Nat} {c : Ch} (hz : fit tx.length = true) (h : tx[k]? = some c) : ixD (.str tx) (.int (k : Int)) = some (.str [c]) := by
  show (match fit tx.length with
    | true => (atI tx (k : Int)).map fun c => D.str [c]
    | false => none) = _
  rw [hz, atI_nat h]
  rfl
theorem bodyLR_ok {F : Ft} {tx : List Ch} {k : Nat} {c : Ch} {a b d : D} {x4 : Option D} (hz : fit tx.length = true) (hc : tx[k]? = some c) (h : F 51 [a, b, .str [c]] = some d) :
    bodyLR F [some (.str tx), some a, some b, some (.int (k : Int)), x4] = (match d with
    | .non => some (.inr (.tup [.non, .non, .int (k : Int)]))
    | .tup [a', b'] => some (.inl [some (.str tx), some a', some b', some (.int (k : Int)), some (.tup [a', b'])])
    | d => kSets [1, 2] (kVar 4) [some (.str tx), some a, some b, some (.int (k : Int)), some d] |>.bind fun o => kSCons (fun _ => some o) kSNil []) := by
  have e1 : kSet 4 (kCall F 51 (kCons (kVar 1) (kCons (kVar 2) (kCons (kIx (kVar 0) (kVar 3)) kNil)))) [some (.str tx), some a, some b, some (.int (k : Int)), x4] = some (.inl [some (.str tx), some a, some b, some (.int (k : Int)), some d]) :=
    kSet_ok (kCall_ok (kCons_ok (d := a) rfl (kCons_ok (d := b) rfl (kCons_ok (kIx_ok (x := .str tx) (y := .int (k : Int)) rfl rfl (ix_str hz hc)) rfl))) h)
  unfold bodyLR
  rw [kS_l e1]
  cases d <;> try rfl
  case tup xs =>
    match xs with
    | [] => rfl
    | [_] => rfl
    | [_, _] => rfl
    | _ :: _ :: _ :: _ => rfl
theorem drop_cons {α : Type} {tx cs : List α} {c : α} {k : Nat} (h : tx.drop k = c :: cs) : tx[k]? = some c ∧ tx.drop (k + 1) = cs := by
  have hk : k < tx.length := by
    rcases Nat.lt_or_ge k tx.length with q | q
    · exact q
    · rw [List.drop_eq_nil_of_le q] at h
      cases h
  rw [List.drop_eq_getElem_cons hk] at h
  cases h
  exact ⟨List.getElem?_eq_getElem hk, rfl⟩
theorem loopLR {n : Nat} {tx : List Ch} (hz : fit tx.length = true) : ∀ (cs : List Ch) (st : D × D) (k : Nat) (x3 x4 : Option D), tx.drop k = cs → (runL n st cs k).2 ≠ 9999 →
    ∃ y3 y4, forR 3 (fun r => bodyLR (FF (n + 15)) r) cs.length k [some (.str tx), some st.1, some st.2, x3, x4] = match (runL n st cs k).1 with
      | some st' => some (.inl [some (.str tx), some st'.1, some st'.2, y3, y4])
      | none => some (.inr (.tup [.non, .non, .int (runL n st cs k).2]))
  | [], st, k, x3, x4, _, _ => ⟨x3, x4, rfl⟩
  | c :: cs, st, k, x3, x4, hd, h => by
    obtain ⟨h1, h2⟩ := drop_cons hd
    rw [runL_cons] at h ⊢
    rw [FM_eq] at h ⊢
    cases e : FF (n + 15) 51 [st.1, st.2, .str [c]] with
    | none => rw [e] at h; exact absurd rfl h
    | some d =>
      rw [e] at h
      have hb := bodyLR_ok (x4 := x4) hz h1 e
      have step : forR 3 (fun r => bodyLR (FF (n + 15)) r) (c :: cs).length k [some (.str tx), some st.1, some st.2, x3, x4] = match bodyLR (FF (n + 15)) [some (.str tx), some st.1, some st.2, some (.int (k : Int)), x4] with
        | some (.inl ρ') => forR 3 (fun r => bodyLR (FF (n + 15)) r) cs.length (k + 1) ρ'
        | some (.inr d) => some (.inr d)
        | none => none := rfl
      rw [step, hb]
      cases d with
      | non => exact ⟨x3, x4, rfl⟩
      | tup xs =>
        match xs, h with
        | [a', b'], h => exact loopLR hz cs (a', b') (k + 1) _ _ h2 h
        | [], h => exact absurd rfl h
        | [_], h => exact absurd rfl h
        | _ :: _ :: _ :: _, h => exact absurd rfl h
      | _ => exact absurd rfl h
theorem lawrun_ok {n : Nat} {cs : List Ch} (h : (runL n (stL (.n 0)) cs 0).2 ≠ 9999) (hz : fit cs.length = true) : FF (n + 16) 53 [.str cs] = some (match (runL n (stL (.n 0)) cs 0).1 with
    | some st => .tup [st.1, st.2, .non]
    | none => .tup [.non, .non, .int (runL n (stL (.n 0)) cs 0).2]) := by
  rw [call53]
  have e1 : m__law_run (FF (n + 15)) [some (.str cs), none, none, none, none] = kSCons (kForR 3 (kF1 Fn1.len (kVar 0)) (bodyLR (FF (n + 15)))) (kSCons (kRet (kTup (kCons (kVar 1) (kCons (kVar 2) (kCons (kCst D.non) kNil))))) kSNil) [some (.str cs), some (stL (.n 0)).1, some (stL (.n 0)).2, none, none] := rfl
  obtain ⟨y3, y4, e⟩ := loopLR hz cs (stL (.n 0)) 0 none none rfl h
  have hn : (cs.length : Int).toNat = cs.length := by omega
  have hc : (0 : Int) ≤ (cs.length : Int) ∧ (cs.length : Int) < 4611686018427387904 := by
    have : cs.length ≤ 16777216 := Nat.ble_eq.mp hz
    omega
  have e2 : kForR 3 (kF1 Fn1.len (kVar 0)) (bodyLR (FF (n + 15))) [some (.str cs), some (stL (.n 0)).1, some (stL (.n 0)).2, none, none] = forR 3 (fun r => bodyLR (FF (n + 15)) r) cs.length 0 [some (.str cs), some (stL (.n 0)).1, some (stL (.n 0)).2, none, none] := by
    unfold kForR
    rw [kF1_ok (x := .str cs) rfl (len_ok hz)]
    simp only [hc, and_self, if_true, hn]
  rw [e1]
  cases er : (runL n (stL (.n 0)) cs 0).1 with
  | none =>
    rw [er] at e
    rw [kS_r (e2.trans e)]
    rfl
  | some st =>
    rw [er] at e
    rw [kS_l (e2.trans e), kS_r (kRet_ok (kTup_ok (kCons_ok (d := st.1) rfl (kCons_ok (d := st.2) rfl (kCons_ok (d := .non) rfl rfl))) rfl))]
    rfl
end Rp
namespace Rp
open PySem PySem.Spec PyProof.Rows L2
def tWrong : List Ch := [c119, c114, c111, c110, c103]
def tComplete : List Ch := [c99, c111, c109, c112, c108, c101, c116, c101]
def tEmpty : List Ch := [c101, c109, c112, c116, c121]
def tIncomplete : List Ch := [c105, c110, c99, c111, c109, c112, c108, c101, c116, c101]
def verd : LS → List Ch
  | .n 0 => tEmpty
  | .n 1 => tComplete
  | _ => tIncomplete
def verdR : Sum LS (Nat × Nat) → List Ch
  | .inl t => verd t
  | .inr _ => tWrong
theorem s0_ok : okS 0 s0 := (by decide : 0 < 29)
theorem lines_len20 {js : List Nat} (hj : Lines js) : lenS js ≤ 20 * js.length := by
  induction js with
  | nil => exact Nat.le_refl _
  | cons j r ih =>
    have h1 := ih fun i hi => hj i (List.mem_cons_of_mem _ hi)
    obtain ⟨h2, h3⟩ := ln_len (hj j (List.mem_cons_self ..))
    unfold lenS at h1 ⊢
    rw [textS_cons, List.length_append, List.length_cons]
    omega
theorem fit_of {n : Nat} (h : n ≤ 16777216) : fit n = true := Nat.ble_eq.mpr h
theorem fitS {js : List Nat} (hj : Lines js) (hl : js.length ≤ 10) : fit (textS js).length = true := by
  have h := lines_len20 hj
  unfold lenS at h
  exact fit_of (by omega)
def okCol (rs : List (List LO)) : Bool := rs.all fun r => (zipW (fun (l : List Ch) o => match o with | .err c => Nat.blt c (len l) | _ => true) lns r).all id
theorem okColN : okCol tN = true := by kernel_rfl
theorem okColB1 : okCol tB1 = true := by kernel_rfl
theorem okColB2 : okCol tB2 = true := by kernel_rfl
theorem row_mem {s : LS} {m : Nat} (h : okS m s) : rowS s ∈ tN ∨ rowS s ∈ tB1 ∨ rowS s ∈ tB2 := by
  cases s with
  | n i =>
    obtain ⟨h1, h2⟩ := Bool.and_eq_true_iff.mp okTN
    exact .inl (nth_mem (by rw [Nat.eq_of_beq_eq_true h1]; exact h))
  | b ks t =>
    cases ks with
    | nil =>
      obtain ⟨h1, h2⟩ := Bool.and_eq_true_iff.mp okB1
      exact .inr (.inl (nth_mem (by rw [Nat.eq_of_beq_eq_true h1]; exact h.1)))
    | cons k r =>
      obtain ⟨h1, h2⟩ := Bool.and_eq_true_iff.mp okB2
      exact .inr (.inr (nth_mem (by rw [Nat.eq_of_beq_eq_true h1]; exact h.1)))
theorem col_of {rs : List (List LO)} (h : okCol rs = true) {r : List LO} (hr : r ∈ rs) {j c : Nat} (hj : j < 27) (hl : r.length = 27) (e : nth (.err 0) r j = .err c) : c < (ln j).length := by
  have h1 := List.all_eq_true.mp (List.all_eq_true.mp h r hr)
  have h2 : nth true (zipW (fun (l : List Ch) o => match o with | .err c => Nat.blt c (len l) | _ => true) lns r) j = true := by
    have hz : j < (zipW (fun (l : List Ch) o => match o with | .err c => Nat.blt c (len l) | _ => true) lns r).length := by
      have : ∀ (as : List (List Ch)) (bs : List LO) (f : List Ch → LO → Bool), as.length = bs.length → (zipW f as bs).length = bs.length := by
        intro as
        induction as with
        | nil => intro bs f h; cases bs with
          | nil => rfl
          | cons _ _ => simp at h
        | cons a as ih => intro bs f h; cases bs with
          | nil => simp at h
          | cons b bs => exact congrArg Nat.succ (ih bs f (by simpa using h))
      rw [this _ _ _ (by rw [lns_len, hl]), hl]
      exact hj
    exact h1 _ (nth_mem hz)
  rw [nth_zipW (da := []) (db := .err 0) (by rw [lns_len]; exact hj) (by rw [hl]; exact hj), e] at h2
  have h3 := blt_lt h2
  rw [len_eq] at h3
  exact h3
theorem step_col {s : LS} {m j c : Nat} (h : okS m s) (hj : j < 27) (e : stepS s j = .inr c) : c ≤ (lnT j).length := by
  obtain ⟨l1, l2⟩ := ln_len hj
  have hl := (rowS_ok h).1
  have h0 := stepO h hj
  have key : nth (.err 0) (rowS s) j = .err c := by
    unfold stepS at e
    generalize nth (.err 0) (rowS s) j = o at h0 e ⊢
    cases o with
    | err c' => cases e; rfl
    | n i => cases e
    | b t => cases e
    | stay t => cases s <;> cases e; cases h0
    | push t => cases s <;> cases e; cases h0
    | pop => cases s <;> cases e; cases h0
  have : c < (ln j).length := by
    rcases row_mem h with q | q | q
    · exact col_of okColN q hj hl key
    · exact col_of okColB1 q hj hl key
    · exact col_of okColB2 q hj hl key
  omega
theorem runS_pos : ∀ {js : List Nat} {s : LS} {m : Nat} {p : Nat × Nat}, okS m s → Lines js → runS s js = .inr p → ∃ j, js[p.1]? = some j ∧ p.2 ≤ (lnT j).length
  | [], s, m, p, _, _, e => by cases e
  | j :: js, s, m, p, h, hj, e => by
    have hj0 : j < 27 := hj j (List.mem_cons_self ..)
    cases es : stepS s j with
    | inr c =>
      rw [runS_inr es] at e
      cases e
      exact ⟨j, rfl, step_col h hj0 es⟩
    | inl s' =>
      rw [runS_inl es] at e
      cases er : runS s' js with
      | inl t => rw [er] at e; cases e
      | inr q =>
        rw [er] at e
        cases e
        obtain ⟨j', h3, h4⟩ := runS_pos (stepS_ok h hj0 es) (fun i hi => hj i (List.mem_cons_of_mem _ hi)) er
        exact ⟨j', by simpa using h3, h4⟩
theorem posS_le {js : List Nat} {p : Nat × Nat} (hj : Lines js) (hl : js.length ≤ 10) (h : ∃ j, js[p.1]? = some j ∧ p.2 ≤ (lnT j).length) : posS js p ≤ 400 := by
  obtain ⟨j, h1, h2⟩ := h
  have hj0 : j < 27 := hj j (List.mem_of_getElem? h1)
  have h3 := (ln_split hj0).2
  have h4 := lines_len20 (js := js.take p.1) fun i hi => hj i (List.mem_of_mem_take hi)
  have h5 : (js.take p.1).length ≤ 10 := by rw [List.length_take]; omega
  unfold posS
  omega
/-- the program, the law, over whole texts -/
theorem whole_P (n : Nat) {js : List Nat} (hj : Lines js) (hl : js.length ≤ 10) : runP n (stP s0) (textS js) 0 = match runS s0 js with
      | .inl t => (some (stP t), lenS js)
      | .inr p => (none, posS js p) := by
  have e := run_P n js s0 0 0 s0_ok (by omega) hj
  rw [e]
  cases runS s0 js with
  | inl t => show (some (stP t), 0 + lenS js) = _; rw [Nat.zero_add]
  | inr p => show (none, 0 + posS js p) = _; rw [Nat.zero_add]
theorem whole_L (n : Nat) {js : List Nat} (hj : Lines js) (hl : js.length ≤ 10) : runL n (stL s0) (textS js) 0 = match runS s0 js with
      | .inl t => (some (stL t), lenS js)
      | .inr p => (none, posS js p) := by
  have e := run_L n js s0 0 0 s0_ok (by omega) hj
  rw [e]
  cases runS s0 js with
  | inl t => show (some (stL t), 0 + lenS js) = _; rw [Nat.zero_add]
  | inr p => show (none, 0 + posS js p) = _; rw [Nat.zero_add]
theorem runS_ok : ∀ {js : List Nat} {s t : LS} {m : Nat}, okS m s → Lines js → runS s js = .inl t → okS (m + js.length) t
  | [], s, t, m, h, _, e => by cases e; exact h
  | j :: js, s, t, m, h, hj, e => by
    have hj0 : j < 27 := hj j (List.mem_cons_self ..)
    cases es : stepS s j with
    | inr c => rw [runS_inr es] at e; cases e
    | inl s' =>
      rw [runS_inl es] at e
      cases er : runS s' js with
      | inr q => rw [er] at e; cases e
      | inl t' =>
        rw [er] at e
        cases e
        have := runS_ok (stepS_ok h hj0 es) (fun i hi => hj i (List.mem_cons_of_mem _ hi)) er
        rw [List.length_cons]
        exact okS_mono this (by omega)
/-- what a state's verdict asks of it -/
theorem stP_shape {t : LS} {m : Nat} (h : okS m t) : ∃ lv g0 gr fr ph tk, stP t = .ins 0 [.tup lv, .tup (.str g0 :: gr), .tup fr, .str ph, .tup tk] ∧ beqS g0 [c100, c111, c110, c101] = decide (verd t = tComplete) ∧ (decide (verd t = tComplete) = false → lv.isEmpty = decide (verd t = tEmpty)) := by
  cases t with
  | n i =>
    have h : i < 29 := h
    match i, h with
    | 0, _ | 1, _ | 2, _ | 3, _ | 4, _ | 5, _ | 6, _ | 7, _ | 8, _ | 9, _ | 10, _ | 11, _ | 12, _ | 13, _ | 14, _ | 15, _ | 16, _ | 17, _ | 18, _ | 19, _ | 20, _ | 21, _ | 22, _ | 23, _ | 24, _ | 25, _ | 26, _ | 27, _ | 28, _ =>
      exact ⟨_, _, _, _, _, _, rfl, by decide +kernel, by decide +kernel⟩
    | n + 29, h => omega
  | b ks t =>
    obtain ⟨h1, h2⟩ := h
    match t, h1 with
    | 0, _ | 1, _ | 2, _ | 3, _ | 4, _ | 5, _ | 6, _ | 7, _ => exact ⟨_, _, _, _, _, _, rfl, by kernel_rfl, fun _ => by kernel_rfl⟩
    | n + 8, h => omega
end Rp
namespace Rp
open PySem PySem.Spec PyProof.Rows L2
theorem call54 (m : Nat) (a : D) : FF (m + 1) 54 [a] = outD (m__law_judged (FF m) [some a, none, none, none]) := by
  rw [← FM_eq (m + 1), ← FM_eq m]
  rfl
def tailJ : KS := (kSCons (kIff (kIsN (kVar 1)) (kSCons (kRet (kTup (kCons (kCst (D.str [c119, c114, c111, c110, c103])) (kCons (kVar 3) kNil)))) kSNil) kSNil) (kSCons (kIff (kBin Op.eq (kIx (kIx (kVar 1) (kCst (D.int 1))) (kCst (D.int 0))) (kCst (D.str [c111, c118, c101, c114]))) (kSCons (kRet (kTup (kCons (kCst (D.str [c99, c111, c109, c112, c108, c101, c116, c101])) (kCons (kCst D.non) kNil)))) kSNil) kSNil) (kSCons (kRet (kTup (kCons (kIte (kBin Op.eq (kIx (kVar 1) (kCst (D.int 0))) (kTup kNil)) (kCst (D.str [c101, c109, c112, c116, c121])) (kCst (D.str [c105, c110, c99, c111, c109, c112, c108, c101, c116, c101]))) (kCons (kCst D.non) kNil)))) kSNil)))
theorem tailJ_ok {t : LS} {m : Nat} (h : okS m t) (tx : D) : tailJ [some tx, some (stL t).1, some (stL t).2, some .non] = some (.inr (.tup [.str (verd t), .non])) := by
  cases t with
  | n i =>
    have h : i < 29 := h
    match i, h with
    | 0, _ | 1, _ | 2, _ | 3, _ | 4, _ | 5, _ | 6, _ | 7, _ | 8, _ | 9, _ | 10, _ | 11, _ | 12, _ | 13, _ | 14, _ | 15, _ | 16, _ | 17, _ | 18, _ | 19, _ | 20, _ | 21, _ | 22, _ | 23, _ | 24, _ | 25, _ | 26, _ | 27, _ | 28, _ => kernel_rfl
    | n + 29, h => omega
  | b ks t => kernel_rfl
/-- where the law says it is wrong -/
def atD (js : List Nat) : Sum LS (Nat × Nat) → D
  | .inl _ => .non
  | .inr p => .int (posS js p)
theorem judged_ok (n : Nat) {js : List Nat} (hj : Lines js) (hl : js.length ≤ 10) : FF (n + 17) 54 [.str (textS js)] = some (.tup [.str (verdR (runS s0 js)), atD js (runS s0 js)]) := by
  have hz := fitS hj hl
  have e := whole_L n hj hl
  have hlen : lenS js ≤ 200 := by have := lines_len20 hj; omega
  have hne : (runL n (stL s0) (textS js) 0).2 ≠ 9999 := by
    rw [e]
    cases er : runS s0 js with
    | inl t => show lenS js ≠ 9999; omega
    | inr p =>
      have := posS_le hj hl (runS_pos s0_ok hj er)
      show posS js p ≠ 9999
      omega
  have e53 := lawrun_ok hne hz
  have eS : runL n (stL (.n 0)) (textS js) 0 = _ := e
  rw [eS] at e53
  rw [call54]
  cases er : runS s0 js with
  | inl t =>
    rw [er] at e53
    have hok := runS_ok s0_ok hj er
    have e1 : kSets [1, 2, 3] (kCall (FF (n + 16)) 53 (kCons (kVar 0) kNil)) [some (.str (textS js)), none, none, none] = some (.inl [some (.str (textS js)), some (stL t).1, some (stL t).2, some .non]) :=
      kSets_ok (kCall_ok (kCons_ok (d := .str (textS js)) rfl rfl) e53) rfl
    show outD (kSCons (kSets [1, 2, 3] (kCall (FF (n + 16)) 53 (kCons (kVar 0) kNil))) tailJ [some (.str (textS js)), none, none, none]) = _
    rw [kS_l e1, tailJ_ok hok]
    rfl
  | inr p =>
    rw [er] at e53
    have e1 : kSets [1, 2, 3] (kCall (FF (n + 16)) 53 (kCons (kVar 0) kNil)) [some (.str (textS js)), none, none, none] = some (.inl [some (.str (textS js)), some .non, some .non, some (.int (posS js p))]) :=
      kSets_ok (kCall_ok (kCons_ok (d := .str (textS js)) rfl rfl) e53) rfl
    show outD (kSCons (kSets [1, 2, 3] (kCall (FF (n + 16)) 53 (kCons (kVar 0) kNil))) tailJ [some (.str (textS js)), none, none, none]) = _
    rw [kS_l e1]
    rfl
theorem compD_ok {ρ : Ev} {i : Nat} {t e : Ev → Option D} {f : D → D} : ∀ {xs : List D}, (∀ x ∈ xs, t (ρ.set i (some x)) = some (.bl true) ∧ e (ρ.set i (some x)) = some (f x) ∧ noL (f x) = true) → compD ρ i t e xs = some (xs.map f)
  | [], _ => rfl
  | x :: xs, h => by
    obtain ⟨h1, h2, h3⟩ := h x (List.mem_cons_self ..)
    have ih := compD_ok (xs := xs) fun y hy => h y (List.mem_cons_of_mem _ hy)
    unfold compD
    rw [h1]
    simp only [h2, ih, h3, List.map_cons]
def lnsD (js : List Nat) : List D := js.map fun j => .str (lnT j)
/-- what is left waiting, what is kept -/
def waitS (js : List Nat) : List Nat := if verdR (runS s0 js) = tComplete ∨ verdR (runS s0 js) = tEmpty then [] else js
def keptS (js : List Nat) (kept : List (List Ch)) : List (List Ch) := if verdR (runS s0 js) = tComplete then kept ++ [textS js] else kept
theorem verdR_cases (r : Sum LS (Nat × Nat)) : verdR r = tComplete ∨ verdR r = tEmpty ∨ verdR r = tIncomplete ∨ verdR r = tWrong := by
  cases r with
  | inr p => exact .inr (.inr (.inr rfl))
  | inl t =>
    match t with
    | .n 0 => exact .inr (.inl rfl)
    | .n 1 => exact .inl rfl
    | .n (i + 2) => exact .inr (.inr (.inl rfl))
    | .b ks t => exact .inr (.inr (.inl rfl))
end Rp
namespace Rp
open PySem PySem.Spec PyProof.Rows L2
theorem call1 (m : Nat) (a b : D) : FF (m + 1) 1 [a, b] = outD (m_consists_of [some a, some b, none]) := by
  rw [← FM_eq (m + 1)]
  rfl
theorem call2 (m : Nat) (a : D) : FF (m + 1) 2 [a] = outD (m_is_line (FF m) [some a]) := by
  rw [← FM_eq (m + 1), ← FM_eq m]
  rfl
theorem call3 (m : Nat) (a : D) : FF (m + 1) 3 [a] = outD (m_is_text (FF m) [some a]) := by
  rw [← FM_eq (m + 1), ← FM_eq m]
  rfl
theorem call29 (m : Nat) (a : D) : FF (m + 1) 29 [a] = outD (m_state_of (FF m) [some a]) := by
  rw [← FM_eq (m + 1), ← FM_eq m]
  rfl
theorem call33 (m : Nat) (a : D) : FF (m + 1) 33 [a] = outD (m_is_entry (FF m) [some a, none]) := by
  rw [← FM_eq (m + 1), ← FM_eq m]
  rfl
theorem blsOf_map {α : Type} (f : α → Bool) : ∀ l : List α, blsOf (l.map fun x => D.bl (f x)) = some (l.map f)
  | [] => rfl
  | a :: r => by
    show (blsOf (r.map fun x => D.bl (f x))).map (f a :: ·) = _
    rw [blsOf_map f r]
    rfl
theorem consists_ok (m : Nat) {tx z : List Ch} (h : tx.all (fun c => memCh c z) = true) (hz : fit tx.length = true) : FF (m + 1) 1 [.str tx, .str z] = some (.bl true) := by
  rw [call1]
  have e1 : compD [some (.str tx), some (.str z), none] 2 (fun r => kTrue r) (fun r => kBin Op.isin (kVar 2) (kVar 1) r) (tx.map fun c => D.str [c]) = some ((tx.map fun c => D.str [c]).map fun x => match x with
      | .str [c] => .bl (memCh c z)
      | d => d) := by
    refine compD_ok fun x hx => ?_
    obtain ⟨c, hc, rfl⟩ := List.mem_map.mp hx
    exact ⟨rfl, rfl, rfl⟩
  rw [List.map_map] at e1
  have e2 : kLcomp 2 (kVar 0) kTrue (kBin Op.isin (kVar 2) (kVar 1)) [some (.str tx), some (.str z), none] = some (.lst (tx.map fun c => D.bl (memCh c z))) :=
    kLcomp_ok (x := .str tx) (xs := tx.map fun c => D.str [c]) rfl rfl (by rw [List.length_map]; exact hz) e1
  have e3 : kF1 Fn1.all (kLcomp 2 (kVar 0) kTrue (kBin Op.isin (kVar 2) (kVar 1))) [some (.str tx), some (.str z), none] = some (.bl true) := by
    refine kF1_ok e2 ?_
    show (blsOf (tx.map fun c => D.bl (memCh c z))).map (fun bs => D.bl (bs.all id)) = _
    rw [blsOf_map]
    show some (D.bl ((tx.map fun c => memCh c z).all id)) = _
    rw [List.all_map]
    have : (tx.all (id ∘ fun c => memCh c z)) = true := h
    rw [this]
  have e4 : kAnd (kF1 Fn1.isStr (kVar 0)) (kF1 Fn1.all (kLcomp 2 (kVar 0) kTrue (kBin Op.isin (kVar 2) (kVar 1)))) [some (.str tx), some (.str z), none] = some (.bl true) := by
    show kF1 Fn1.all (kLcomp 2 (kVar 0) kTrue (kBin Op.isin (kVar 2) (kVar 1))) [some (.str tx), some (.str z), none] = _
    exact e3
  show outD (kSCons (kRet (kAnd (kF1 Fn1.isStr (kVar 0)) (kF1 Fn1.all (kLcomp 2 (kVar 0) kTrue (kBin Op.isin (kVar 2) (kVar 1)))))) kSNil [some (.str tx), some (.str z), none]) = _
  rw [kS_r (kRet_ok e4)]
  rfl
def strOf : D → List Ch
  | .str s => s
  | _ => []
/-- a line's signs, a text's -/
def sgL : List Ch := strOf gk_LETTERS ++ strOf gk_DIGITS_signs ++ strOf gk_OTHERS
def sgT : List Ch := sgL ++ [c10]
theorem lines_sg : (lines.all fun l => l.all fun c => memCh c sgL) = true := by kernel_rfl
theorem lns_sg : (lns.all fun l => l.all fun c => memCh c sgT) = true := by kernel_rfl
theorem isLine_ok (m : Nat) {j : Nat} (hj : j < 27) : FF (m + 2) 2 [.str (lnT j)] = some (.bl true) := by
  have h := List.all_eq_true.mp lines_sg (lnT j) (nth_mem (by rw [lines_len]; exact hj))
  have hl := (ln_split hj).2
  rw [call2]
  have e : kCall (FF (m + 1)) 1 (kCons (kVar 0) (kCons (kBin Op.add (kBin Op.add (kCst gk_LETTERS) (kCst gk_DIGITS_signs)) (kCst gk_OTHERS)) kNil)) [some (.str (lnT j))] = some (.bl true) :=
    kCall_ok (kCons_ok (d := .str (lnT j)) rfl (kCons_ok (d := .str sgL) (by kernel_rfl) rfl)) (consists_ok m h (fit_of (by omega)))
  show outD (kSCons (kRet (kCall (FF (m + 1)) 1 (kCons (kVar 0) (kCons (kBin Op.add (kBin Op.add (kCst gk_LETTERS) (kCst gk_DIGITS_signs)) (kCst gk_OTHERS)) kNil)))) kSNil [some (.str (lnT j))]) = _
  rw [kS_r (kRet_ok e)]
  rfl
theorem textS_sg : ∀ {js : List Nat}, Lines js → (textS js).all (fun c => memCh c sgT) = true
  | [], _ => rfl
  | j :: js, hj => by
    rw [textS_cons, List.all_append, textS_sg (js := js) fun i hi => hj i (List.mem_cons_of_mem _ hi), Bool.and_true]
    exact List.all_eq_true.mp lns_sg (ln j) (nth_mem (by rw [lns_len]; exact hj j (List.mem_cons_self ..)))
theorem isText_ok (m : Nat) {js : List Nat} (hj : Lines js) (hl : js.length ≤ 10) : FF (m + 2) 3 [.str (textS js)] = some (.bl true) := by
  rw [call3]
  have e : kCall (FF (m + 1)) 1 (kCons (kVar 0) (kCons (kBin Op.add (kBin Op.add (kBin Op.add (kCst gk_LETTERS) (kCst gk_DIGITS_signs)) (kCst gk_OTHERS)) (kCst (D.str [c10]))) kNil)) [some (.str (textS js))] = some (.bl true) :=
    kCall_ok (kCons_ok (d := .str (textS js)) rfl (kCons_ok (d := .str sgT) (by kernel_rfl) rfl)) (consists_ok m (textS_sg hj) (fitS hj hl))
  show outD (kSCons (kRet (kCall (FF (m + 1)) 1 (kCons (kVar 0) (kCons (kBin Op.add (kBin Op.add (kBin Op.add (kCst gk_LETTERS) (kCst gk_DIGITS_signs)) (kCst gk_OTHERS)) (kCst (D.str [c10]))) kNil)))) kSNil [some (.str (textS js))]) = _
  rw [kS_r (kRet_ok e)]
  rfl
/-- a line from a state -/
theorem behind_line (n : Nat) {s : LS} {j : Nat} (h : okS 9 s) (hj : j < 27) : FF (n + 16) 28 [stP s, .str (ln j)] = some (match stepS s j with
    | .inl t => .tup [stP t, .int (ln j).length]
    | .inr c => .tup [.non, .int c]) := by
  have e : runP n (stP s) (ln j) 0 = outS (ln j) (stepS s j) := line_P n h hj
  obtain ⟨l1, l2⟩ := ln_len hj
  have hz : fit (ln j).length = true := fit_of (by omega)
  have hne : (runP n (stP s) (ln j) 0).2 ≠ 9999 := by
    rw [e]
    cases es : stepS s j with
    | inl t => show len (ln j) ≠ 9999; rw [len_eq]; omega
    | inr c => have := stepS_err h hj es; show c ≠ 9999; omega
  rw [behind_ok hne hz, e]
  cases stepS s j <;> rfl
/-- what a whole text leaves -/
def outT (js : List Nat) : Sum LS (Nat × Nat) → D
  | .inl t => .tup [stP t, .int (lenS js)]
  | .inr p => .tup [.non, .int (posS js p)]
theorem st0_eq (m : Nat) : FF (m + 1) 0 [] = some (stP s0) := by kernel_rfl
theorem stateOf_ok (n : Nat) {js : List Nat} (hj : Lines js) (hl : js.length ≤ 10) : FF (n + 17) 29 [.str (textS js)] = some (outT js (runS s0 js)) := by
  have e := whole_P n hj hl
  have hlen : lenS js ≤ 200 := by have := lines_len20 hj; omega
  have hne : (runP n (stP s0) (textS js) 0).2 ≠ 9999 := by
    rw [e]
    cases er : runS s0 js with
    | inl t => show lenS js ≠ 9999; omega
    | inr p =>
      have := posS_le hj hl (runS_pos s0_ok hj er)
      show posS js p ≠ 9999
      omega
  have e28 := behind_ok hne (fitS hj hl)
  rw [e] at e28
  rw [call29]
  have e1 : kCall (FF (n + 16)) 28 (kCons (kCall (FF (n + 16)) 0 kNil) (kCons (kVar 0) kNil)) [some (.str (textS js))] = some (outT js (runS s0 js)) := by
    refine kCall_ok (kCons_ok (d := stP s0) (kCall_ok (ds := []) rfl (st0_eq (n + 15))) (kCons_ok (d := .str (textS js)) rfl rfl)) (e28.trans ?_)
    cases runS s0 js <;> rfl
  show outD (kSCons (kRet (kCall (FF (n + 16)) 28 (kCons (kCall (FF (n + 16)) 0 kNil) (kCons (kVar 0) kNil)))) kSNil [some (.str (textS js))]) = _
  rw [kS_r (kRet_ok e1)]
  rfl
def optR : Sum LS (Nat × Nat) → D
  | .inl t => stP t
  | .inr _ => .non
theorem entry30 (m : Nat) {t : LS} {k : Nat} (h : okS k t) : FF (m + 1) 30 [stP t] = some (.bl (decide (verd t = tComplete))) := by
  rw [← FM_eq]
  cases t with
  | n i =>
    have h : i < 29 := h
    match i, h with
    | 0, _ | 1, _ | 2, _ | 3, _ | 4, _ | 5, _ | 6, _ | 7, _ | 8, _ | 9, _ | 10, _ | 11, _ | 12, _ | 13, _ | 14, _ | 15, _ | 16, _ | 17, _ | 18, _ | 19, _ | 20, _ | 21, _ | 22, _ | 23, _ | 24, _ | 25, _ | 26, _ | 27, _ | 28, _ => kernel_rfl
    | n + 29, h => omega
  | b ks t => kernel_rfl
theorem verdict31 (m : Nat) {t : LS} {k : Nat} (h : okS k t) : FF (m + 2) 31 [stP t] = some (.str (verd t)) := by
  rw [← FM_eq]
  cases t with
  | n i =>
    have h : i < 29 := h
    match i, h with
    | 0, _ | 1, _ | 2, _ | 3, _ | 4, _ | 5, _ | 6, _ | 7, _ | 8, _ | 9, _ | 10, _ | 11, _ | 12, _ | 13, _ | 14, _ | 15, _ | 16, _ | 17, _ | 18, _ | 19, _ | 20, _ | 21, _ | 22, _ | 23, _ | 24, _ | 25, _ | 26, _ | 27, _ | 28, _ => kernel_rfl
    | n + 29, h => omega
  | b ks t => kernel_rfl
theorem verdictR (m : Nat) {js : List Nat} (hj : Lines js) (hl : js.length ≤ 10) : FF (m + 2) 31 [optR (runS s0 js)] = some (.str (verdR (runS s0 js))) := by
  cases er : runS s0 js with
  | inl t => exact verdict31 m (runS_ok s0_ok hj er)
  | inr p => kernel_rfl
theorem isEntry_ok (n : Nat) {js : List Nat} (hj : Lines js) (hl : js.length ≤ 10) : FF (n + 18) 33 [.str (textS js)] = some (.bl (decide (verdR (runS s0 js) = tComplete))) := by
  rw [call33]
  have e1 : kIff (kNot (kCall (FF (n + 17)) 3 (kCons (kVar 0) kNil))) (kSCons (kRet (kCst (D.bl false))) kSNil) kSNil [some (.str (textS js)), none] = some (.inl [some (.str (textS js)), none]) := by
    have : kNot (kCall (FF (n + 17)) 3 (kCons (kVar 0) kNil)) [some (.str (textS js)), none] = some (.bl false) := by
      unfold kNot
      rw [kCall_ok (kCons_ok (d := .str (textS js)) rfl rfl) (isText_ok (n + 15) hj hl)]
      rfl
    rw [kIff_f this]
    rfl
  have e2 : kSet 1 (kIx (kCall (FF (n + 17)) 29 (kCons (kVar 0) kNil)) (kCst (D.int 0))) [some (.str (textS js)), none] = some (.inl [some (.str (textS js)), some (optR (runS s0 js))]) := by
    refine kSet_ok (d := optR (runS s0 js)) (kIx_ok (kCall_ok (kCons_ok (d := .str (textS js)) rfl rfl) (stateOf_ok n hj hl)) rfl ?_)
    cases runS s0 js <;> rfl
  show outD (kSCons (kIff (kNot (kCall (FF (n + 17)) 3 (kCons (kVar 0) kNil))) (kSCons (kRet (kCst (D.bl false))) kSNil) kSNil) (kSCons (kSet 1 (kIx (kCall (FF (n + 17)) 29 (kCons (kVar 0) kNil)) (kCst (D.int 0)))) (kSCons (kRet (kAnd (kNotN (kVar 1)) (kCall (FF (n + 17)) 30 (kCons (kVar 1) kNil)))) kSNil)) [some (.str (textS js)), none]) = _
  rw [kS_l e1, kS_l e2]
  cases er : runS s0 js with
  | inr p => rfl
  | inl t =>
    have e3 : kAnd (kNotN (kVar 1)) (kCall (FF (n + 17)) 30 (kCons (kVar 1) kNil)) [some (.str (textS js)), some (stP t)] = some (.bl (decide (verd t = tComplete))) := by
      have hx : kNotN (kVar 1) [some (.str (textS js)), some (stP t)] = some (.bl true) := by
        obtain ⟨lv, g0, gr, fr, ph, tk, e, _, _⟩ := stP_shape (runS_ok s0_ok hj er)
        rw [e]
        rfl
      unfold kAnd
      rw [hx]
      exact kCall_ok (kCons_ok (d := stP t) rfl rfl) (entry30 (n + 16) (runS_ok s0_ok hj er))
    show outD (kSCons (kRet (kAnd (kNotN (kVar 1)) (kCall (FF (n + 17)) 30 (kCons (kVar 1) kNil)))) kSNil [some (.str (textS js)), some (stP t)]) = _
    rw [kS_r (kRet_ok e3)]
    rfl
end Rp
namespace Rp
open PySem PySem.Spec PyProof.Rows L2
theorem call35 (m : Nat) (a b : D) : FF (m + 1) 35 [a, b] = outD (m__law_mixed [some a, some b, none]) := by
  rw [← FM_eq (m + 1)]
  rfl
theorem aMul {a b : Int} (h : (-(2 ^ 64) < a ∧ a < 2 ^ 64) ∨ (-(2 ^ 64) < b ∧ b < 2 ^ 64)) : appOp .mul (.int a) (.int b) = some (.int (a * b)) := by
  show (if _ then some (D.int (a * b)) else none) = _
  rw [if_pos h]
theorem aMod {a b : Int} (h : b ≠ 0) : appOp .mod (.int a) (.int b) = some (.int (a.fmod b)) := by
  show (if b ≠ 0 then some (D.int (a.fmod b)) else none) = _
  rw [if_pos h]
theorem fmod_in {a b : Int} (h : 0 < b) : 0 ≤ a.fmod b ∧ a.fmod b < b := ⟨Int.fmod_nonneg_of_pos a h, Int.fmod_lt_of_pos a h⟩
theorem mixed_ok (m : Nat) (c k : Int) (hk : -(2 ^ 64) < k ∧ k < 2 ^ 64) : ∃ r, FF (m + 1) 35 [.int c, .int k] = some (.int r) := by
  rw [call35]
  generalize e1 : ((c.fmod 1000000007 + 7919 * k * k + 31 * k + 7).fmod 2147483647) = x
  have hx : 0 ≤ x ∧ x < 2147483647 := by rw [← e1]; exact fmod_in (by decide)
  have s1 : kSet 2 (kBin Op.mod (kBin Op.add (kBin Op.add (kBin Op.add (kBin Op.mod (kVar 0) (kCst (D.int 1000000007))) (kBin Op.mul (kBin Op.mul (kCst (D.int 7919)) (kVar 1)) (kVar 1))) (kBin Op.mul (kCst (D.int 31)) (kVar 1))) (kCst (D.int 7))) (kCst (D.int 2147483647))) [some (.int c), some (.int k), none] = some (.inl [some (.int c), some (.int k), some (.int x)]) := by
    refine kSet_ok (d := .int x) (kBin_ok (kBin_ok (kBin_ok (kBin_ok (kBin_ok (x := .int c) rfl rfl (aMod (by decide))) (kBin_ok (kBin_ok (y := .int k) rfl rfl (aMul (.inl (by decide)))) (y := .int k) rfl (aMul (.inr hk))) rfl) (kBin_ok (y := .int k) rfl rfl (aMul (.inl (by decide)))) rfl) rfl rfl) rfl ?_)
    rw [aMod (by decide), e1]
  generalize e2 : (((x * x).fmod 2147483647 * x).fmod 2147483629) = y
  have hy : 0 ≤ y ∧ y < 2147483629 := by rw [← e2]; exact fmod_in (by decide)
  have s2 : kSet 2 (kBin Op.mod (kBin Op.mul (kBin Op.mod (kBin Op.mul (kVar 2) (kVar 2)) (kCst (D.int 2147483647))) (kVar 2)) (kCst (D.int 2147483629))) [some (.int c), some (.int k), some (.int x)] = some (.inl [some (.int c), some (.int k), some (.int y)]) := by
    refine kSet_ok (d := .int y) (kBin_ok (kBin_ok (kBin_ok (kBin_ok (x := .int x) (y := .int x) rfl rfl (aMul (.inl (by omega)))) rfl (aMod (by decide))) (y := .int x) rfl (aMul (.inr (by omega)))) rfl ?_)
    rw [aMod (by decide), e2]
  refine ⟨((y * (69621 + 2 * k.fmod 1000)).fmod 2147483647).fdiv 7, ?_⟩
  show outD (kSCons (kSet 2 _) (kSCons (kSet 2 _) _) _) = _
  rw [kS_l s1, kS_l s2]
  have s3 : kBin Op.fdv (kBin Op.mod (kBin Op.mul (kVar 2) (kBin Op.add (kCst (D.int 69621)) (kBin Op.mul (kCst (D.int 2)) (kBin Op.mod (kVar 1) (kCst (D.int 1000)))))) (kCst (D.int 2147483647))) (kCst (D.int 7)) [some (.int c), some (.int k), some (.int y)] = some (.int (((y * (69621 + 2 * k.fmod 1000)).fmod 2147483647).fdiv 7)) := by
    refine kBin_ok (kBin_ok (kBin_ok (x := .int y) rfl (kBin_ok rfl (kBin_ok rfl (kBin_ok (x := .int k) rfl rfl (aMod (by decide))) (aMul (.inl (by decide)))) rfl) (aMul (.inl (by omega)))) rfl (aMod (by decide))) rfl ?_
    show (if (7 : Int) ≠ 0 ∧ (7 : Int).natAbs < 1073741824 then some _ else none) = _
    rw [if_pos (by decide)]
  rw [kS_r (kRet_ok s3)]
  rfl
theorem call32 (m : Nat) (a b : D) : FF (m + 1) 32 [a, b] = outD (m_is_index [some a, some b]) := by
  rw [← FM_eq (m + 1)]
  rfl
theorem call34 (m : Nat) (a b : D) : FF (m + 1) 34 [a, b] = outD (m_is_count [some a, some b]) := by
  rw [← FM_eq (m + 1)]
  rfl
theorem index_ok (m : Nat) {i n : Int} (h0 : 0 ≤ i) (h1 : i < n) : FF (m + 1) 32 [.int i, .int n] = some (.bl true) := by
  rw [call32]
  have e : kChain Op.le Op.lt (kCst (D.int 0)) (kVar 0) (kVar 1) [some (.int i), some (.int n)] = some (.bl true) := by
    show (match some (D.bl (decide (0 ≤ i))) with
      | some (.bl true) => (some (D.bl (decide (i < n))) : Option D)
      | some (.bl false) => some (.bl false)
      | _ => none) = _
    rw [decide_eq_true h0, decide_eq_true h1]
  show outD (kSCons (kRet (kAnd (kF1 Fn1.isInt (kVar 0)) (kAnd (kNot (kF1 Fn1.isBool (kVar 0))) (kChain Op.le Op.lt (kCst (D.int 0)) (kVar 0) (kVar 1))))) kSNil [some (.int i), some (.int n)]) = _
  have e2 : kAnd (kF1 Fn1.isInt (kVar 0)) (kAnd (kNot (kF1 Fn1.isBool (kVar 0))) (kChain Op.le Op.lt (kCst (D.int 0)) (kVar 0) (kVar 1))) [some (.int i), some (.int n)] = some (.bl true) := e
  rw [kS_r (kRet_ok e2)]
  rfl
theorem count_ok (m : Nat) {i n : Int} (h : n ≤ i) : FF (m + 1) 34 [.int i, .int n] = some (.bl true) := by
  rw [call34]
  have e : kBin Op.ge (kVar 0) (kVar 1) [some (.int i), some (.int n)] = some (.bl true) := by
    show some (D.bl (decide (n ≤ i))) = _
    rw [decide_eq_true h]
  have e2 : kAnd (kF1 Fn1.isInt (kVar 0)) (kAnd (kNot (kF1 Fn1.isBool (kVar 0))) (kBin Op.ge (kVar 0) (kVar 1))) [some (.int i), some (.int n)] = some (.bl true) := e
  show outD (kSCons (kRet (kAnd (kF1 Fn1.isInt (kVar 0)) (kAnd (kNot (kF1 Fn1.isBool (kVar 0))) (kBin Op.ge (kVar 0) (kVar 1))))) kSNil [some (.int i), some (.int n)]) = _
  rw [kS_r (kRet_ok e2)]
  rfl
end Rp
namespace Rp
open PySem PySem.Spec PyProof.Rows L2
def shiftR (k : Nat) : Sum LS (Nat × Nat) → Sum LS (Nat × Nat)
  | .inl t => .inl t
  | .inr p => .inr (p.1 + k, p.2)
theorem leads_cons (s : LS) (j : Nat) (js : List Nat) : leadsS s (j :: js) = some s :: match stepS s j with
    | .inl s' => leadsS s' js
    | .inr _ => List.replicate (js.length + 1) none := rfl
theorem leads_len : ∀ (js : List Nat) (s : LS), (leadsS s js).length = js.length + 1
  | [], _ => rfl
  | j :: js, s => by
    rw [leads_cons, List.length_cons]
    cases stepS s j with
    | inl s' => simp only [leads_len js s', List.length_cons]
    | inr c => simp only [List.length_replicate, List.length_cons]
theorem leads_zero (js : List Nat) (s : LS) : (leadsS s js)[0]? = some (some s) := by
  cases js <;> rfl
theorem shift_zero (r : Sum LS (Nat × Nat)) : shiftR 0 r = r := by cases r <;> rfl
theorem shift_add (a b : Nat) (r : Sum LS (Nat × Nat)) : shiftR a (shiftR b r) = shiftR (a + b) r := by
  cases r with
  | inl t => rfl
  | inr p => show Sum.inr (p.1 + b + a, p.2) = Sum.inr (p.1 + (a + b), p.2); rw [Nat.add_assoc, Nat.add_comm b a]
theorem runS_shift {s s' : LS} {j : Nat} {js : List Nat} (h : stepS s j = .inl s') : runS s (j :: js) = shiftR 1 (runS s' js) := by
  rw [runS_inl h]
  cases runS s' js <;> rfl
/-- from a state on -/
theorem leads_drop : ∀ (k : Nat) (js : List Nat) (s t : LS), (leadsS s js)[k]? = some (some t) → (leadsS s js).drop k = leadsS t (js.drop k) ∧ runS s js = shiftR k (runS t (js.drop k))
  | 0, js, s, t, h => by
    rw [leads_zero] at h
    cases h
    exact ⟨rfl, (shift_zero _).symm⟩
  | k + 1, [], s, t, h => by cases h
  | k + 1, j :: js, s, t, h => by
    rw [leads_cons] at h ⊢
    rw [List.getElem?_cons_succ] at h
    cases e : stepS s j with
    | inr c =>
      rw [e] at h
      simp only [List.getElem?_replicate] at h
      split at h <;> cases h
    | inl s' =>
      rw [e] at h
      obtain ⟨h1, h2⟩ := leads_drop k js s' t h
      exact ⟨h1, by rw [runS_shift e, h2, shift_add, Nat.add_comm]; rfl⟩
theorem leads_none : ∀ (k : Nat) (js : List Nat) (s : LS), (leadsS s js)[k]? = some none → (∃ p, runS s js = .inr p ∧ p.1 < k) ∧ (leadsS s js).drop k = List.replicate (js.length + 1 - k) none
  | 0, js, s, h => by rw [leads_zero] at h; cases h
  | k + 1, [], s, h => by cases h
  | k + 1, j :: js, s, h => by
    rw [leads_cons] at h ⊢
    rw [List.getElem?_cons_succ] at h
    cases e : stepS s j with
    | inr c =>
      refine ⟨⟨(0, c), runS_inr e, Nat.succ_pos _⟩, ?_⟩
      show (List.replicate (js.length + 1) none).drop k = _
      rw [List.drop_replicate, List.length_cons]
      congr 1
      omega
    | inl s' =>
      rw [e] at h
      obtain ⟨⟨p, h1, h2⟩, h3⟩ := leads_none k js s' h
      refine ⟨⟨(p.1 + 1, p.2), by rw [runS_shift e, h1]; rfl, Nat.succ_lt_succ h2⟩, ?_⟩
      show (leadsS s' js).drop k = _
      rw [h3, List.length_cons]
      congr 1
      omega
/-- the states in front of the first lines -/
theorem leads_take : ∀ (k : Nat) (js : List Nat) (s : LS), (leadsS s js).take (k + 1) = leadsS s (js.take k)
  | 0, js, s => by cases js <;> rfl
  | k + 1, [], s => rfl
  | k + 1, j :: js, s => by
    rw [leads_cons, List.take_succ_cons, List.take_succ_cons, leads_cons]
    cases e : stepS s j with
    | inl s' => simp only [leads_take k js s']
    | inr c => simp only [List.take_replicate, List.length_take]; congr 2; omega
theorem leads_last : ∀ (js : List Nat) (s : LS), (leadsS s js)[js.length]? = some (match runS s js with
    | .inl t => some t
    | .inr _ => none)
  | [], s => rfl
  | j :: js, s => by
    rw [leads_cons, List.length_cons, List.getElem?_cons_succ]
    cases e : stepS s j with
    | inl s' =>
      simp only
      rw [leads_last js s', runS_shift e]
      cases runS s' js <;> rfl
    | inr c =>
      simp only
      rw [runS_inr e, List.getElem?_replicate, if_pos (Nat.lt_succ_self _)]
/-- one more line -/
theorem leads_step {s t : LS} {js : List Nat} {k j : Nat} (h : (leadsS s js)[k]? = some (some t)) (hj : js[k]? = some j) : (leadsS s js)[k + 1]? = some (match stepS t j with
    | .inl t' => some t'
    | .inr _ => none) ∧ (∀ c, stepS t j = .inr c → runS s js = .inr (k, c)) := by
  obtain ⟨h1, h2⟩ := leads_drop k js s t h
  have hk : k < js.length := (List.getElem?_eq_some_iff.mp hj).1
  have hd : js.drop k = j :: js.drop (k + 1) := by
    rw [List.drop_eq_getElem_cons hk]
    congr 1
    rw [List.getElem?_eq_getElem hk] at hj
    exact Option.some.inj hj
  rw [hd] at h1 h2
  have h3 : (leadsS s js)[k + 1]? = (leadsS t (j :: js.drop (k + 1)))[1]? := by rw [← h1, List.getElem?_drop]
  refine ⟨?_, fun c hc => ?_⟩
  · rw [h3, leads_cons, List.getElem?_cons_succ]
    cases e : stepS t j with
    | inl t' => exact leads_zero _ _
    | inr c => rfl
  · rw [h2, runS_inr hc]
    show Sum.inr (0 + k, c) = _
    rw [Nat.zero_add]
/-- the state in front of the line -/
theorem leads_ok : ∀ (k : Nat) (js : List Nat) (s t : LS) (m : Nat), okS m s → Lines js → (leadsS s js)[k]? = some (some t) → okS (m + k) t
  | 0, js, s, t, m, h, _, e => by rw [leads_zero] at e; cases e; exact h
  | k + 1, [], s, t, m, _, _, e => by cases e
  | k + 1, j :: js, s, t, m, h, hj, e => by
    rw [leads_cons, List.getElem?_cons_succ] at e
    cases es : stepS s j with
    | inr c =>
      rw [es] at e
      simp only [List.getElem?_replicate] at e
      split at e <;> cases e
    | inl s' =>
      rw [es] at e
      have := leads_ok k js s' t (m + 1) (stepS_ok h (hj j (List.mem_cons_self ..)) es) (fun i hi => hj i (List.mem_cons_of_mem _ hi)) e
      exact okS_mono this (by omega)
end Rp
namespace Rp
open PySem PySem.Spec PyProof.Rows L2
section
variable {P : Program} {w : World} {K : PySem.W.Frag} {mg : Str → Option Value} {base : Heap} {T : Cl}
theorem hand_fn {d : He.DefD} {a : Addr} {N ps : List Str} {k : Nat} {sp : Sp} (D : ∃ fd, FunD K d.name d.qual d.params d.body d.scope (d.dvs K) (d.kws K) a fd) (hd : d.dfl = []) (hk : d.kwd = []) (S : FnScope N ps d.scope) (len : ∀ vs H Q E, sp vs H Q E → vs.length = ps.length)
    (hb : ∀ (kV doc pm : Value) (an : Option Addr) (cdv ct : Value) (us : List Value), us.length = ps.length → bindArgs (PySem.W.fnOf d.name d.qual d.params d.body d.scope .none kV doc pm an cdv ct) ⟨us, []⟩ = pure (ps.zip us))
    (hbody : ∀ (cdv : Value) (A : Around) (outer : List Env) (s : Shared) (H : Hp) (vs : List V) (Q : VK) (E : XK), Room k (A.deeper (envOfC d.qual d.scope s.heap.objs.size a cdv)) → sp vs H Q E →
      ∃ t, PSs (cxOf CX0 P w K mg base N d.qual d.scope a cdv A outer s H E) d.body t ∧ t { nx := fun _ H' => Q .non H', rt := Q } (L2.start N vs) H) :
    ∃ fd, FnOk P w K mg base CX0 (k + 1) a fd ps sp ∧ Binds K fd ps [] := by
  obtain ⟨fd, D⟩ := D
  have e1 : d.dvs K = [] := by unfold He.DefD.dvs; rw [hd]; rfl
  have e2 : d.kws K = [] := by unfold He.DefD.kws; rw [hk]; rfl
  rw [e1, e2] at D
  exact ⟨fd, D.ok S len hbody, D.bindsN hb⟩
theorem hand_R {k : Nat} {a : Addr} {ps : List Str} {sp : Sp} (h : ∃ fd, FnOk P w K mg base CX0 k a fd ps sp ∧ Binds K fd ps []) : FnR P w K mg base CX0 k a sp := by
  obtain ⟨fd, h1, h2⟩ := h
  exact (h1.raw h2 .nil).imp fun vs H Q E h => by rw [List.append_nil]; exact h
def spCheckL : Sp := fun vs H Q _ => ∃ j, j < 27 ∧ vs = [lnV j] ∧ ∀ H', Same H H' → Q .non H'
theorem ok_check_line (W : HW P w K mg base T) : FnR P w K mg base CX0 33 (He.fAd K ("check_line", none)) spCheckL := by
  refine hand_R (hand_fn (d := e_check_line) (W.hd _ (List.mem_of_getElem? (i := 3) rfl)) rfl rfl hc_check_line (fun vs H Q E h => ?_) (fun _ _ _ _ _ _ us hl => match us, hl with | [_], _ => by kernel_rfl)
    fun cdv A outer s H vs Q E hr h => ⟨tIfS (tNot (tB (tPu K T 2 (tCons (tVar 0) tNil)))) tNever tNext, ?_, ?_⟩)
  · obtain ⟨j, _, rfl, _⟩ := h
    rfl
  · exact pss_one (ps_if (pt_not (pt_val (pe_pu W hr rfl rfl (pa_cons (pv 0) pa_nil)))) pss_never pss_nil)
  · obtain ⟨j, hj, rfl, hQ⟩ := h
    exact ⟨_, rfl, [.str (lnT j)], .bl true, .cons (.str _) .nil, isLine_ok 28 hj, fun v H' s' r => ⟨true, rep_bl r, iteF (hQ H' s')⟩⟩
def spCheckT : Sp := fun vs H Q _ => ∃ js, Lines js ∧ js.length ≤ 10 ∧ vs = [.str (toS (textS js))] ∧ ∀ H', Same H H' → Q .non H'
theorem ok_check_text (W : HW P w K mg base T) : FnR P w K mg base CX0 33 (He.fAd K ("check_text", none)) spCheckT := by
  refine hand_R (hand_fn (d := e_check_text) (W.hd _ (List.mem_of_getElem? (i := 0) rfl)) rfl rfl hc_check_text (fun vs H Q E h => ?_) (fun _ _ _ _ _ _ us hl => match us, hl with | [_], _ => by kernel_rfl)
    fun cdv A outer s H vs Q E hr h => ⟨tIfS (tNot (tB (tPu K T 3 (tCons (tVar 0) tNil)))) tNever tNext, ?_, ?_⟩)
  · obtain ⟨j, _, _, rfl, _⟩ := h
    rfl
  · exact pss_one (ps_if (pt_not (pt_val (pe_pu W hr rfl rfl (pa_cons (pv 0) pa_nil)))) pss_never pss_nil)
  · obtain ⟨js, hj, hl, rfl, hQ⟩ := h
    exact ⟨_, rfl, [.str (textS js)], .bl true, .cons (.str _) .nil, isText_ok 28 hj hl, fun v H' s' r => ⟨true, rep_bl r, iteF (hQ H' s')⟩⟩
end
end Rp
namespace Rp
open PySem PySem.Spec PyProof.Rows L2
section
variable {P : Program} {w : World} {K : PySem.W.Frag} {mg : Str → Option Value} {base : Heap} {T : Cl}
theorem SqT.same {H H' : Hp} {a : Addr} {vs : List V} (h : SqT K H a vs) (s : Same H H') : SqT K H' a vs := sqT_same s h
theorem BufS.same {H H' : Hp} {b ll : Addr} {js : List Nat} (h : BufS K T H b ll js) (s : Same H H') : BufS K T H' b ll js := by
  obtain ⟨dx, tp, lt, sv, wk, tot, lv, h1, h2, h3, h4, h5, h6⟩ := h.ex
  exact ⟨⟨dx, tp, lt, sv, wk, tot, lv, s _ _ h1, sqT_same s h2, sqT_same s h3, s _ _ h4, h5.mono s, h6.mono s⟩, h.ok, h.len⟩
theorem fld_of (W : HW P w K mg base T) {H : Hp} {v : V} {ds : List D} {d : D} {i : Nat} {x : Str} (r : Rep K T H v (.ins 0 ds)) (hi : nm.fld[i]? = some x) (hd : ds[i]? = some d) :
    ∃ a C dx fs u, v = .ref a ∧ H a = some (.ins C dx fs) ∧ Cls K C ∧ NoAttr K C x ∧ fs.lookup x = some u ∧ Rep K T H u d := by
  obtain ⟨a, dx, fs, rfl, h1, h2, h3⟩ := rep_ins r
  obtain ⟨u, h4, h5⟩ := h3.get hd
  have hf := W.dh.hf
  exact ⟨a, _, dx, fs, u, rfl, h1, hf.cls, hf.noat x (List.mem_of_getElem? hi), look_at (h2.trans hf.fld) hf.fnd hi h4, h5⟩
theorem atI_m1 {α : Type} {xs : List α} {n : Nat} {d : α} (hl : xs.length = n + 1) (h : xs[n]? = some d) : L2.atI xs (-1) = some d := by
  have hn : n < xs.length := by omega
  have e : xs = xs.take n ++ [d] := by
    have h1 : xs.drop n = [d] := by
      rw [List.drop_eq_getElem_cons hn, List.drop_eq_nil_of_le (by omega)]
      congr 1
      rw [List.getElem?_eq_getElem hn] at h
      exact Option.some.inj h
    rw [← h1, List.take_append_drop]
  rw [e]
  exact atI_last _ _
theorem leads_m1 (js : List Nat) : L2.atI (leadsD js) (-1) = some (optR (runS s0 js)) := by
  refine atI_m1 (n := js.length) (by unfold leadsD; rw [List.length_map, leads_len]) ?_
  unfold leadsD
  rw [List.getElem?_map, leads_last]
  cases runS s0 js <;> rfl
theorem HW.na (W : HW P w K mg base T) {c f : Str} (h : (c, f) ∈ flds) : NoAttr K (cAd K c) f := W.noat _ h
theorem HW.cl (W : HW P w K mg base T) {c : Str} (h : c ∈ cnames) : Cls K (cAd K c) := W.cls _ h
theorem eq_nil (xs : List D) : appOp .eq (.tup xs) (.tup []) = some (.bl xs.isEmpty) := by cases xs <;> rfl
/-- what a reading of a buffer gives -/
def spB1 (K : PySem.W.Frag) (T : Cl) (R : List Nat → V → Hp → Prop) : Sp := fun vs H Q _ => ∃ b ll js, vs = [.ref b] ∧ BufS K T H b ll js ∧ ∀ v H', Same H H' → R js v H' → Q v H'
abbrev Getter (P : Program) (w : World) (K : PySem.W.Frag) (mg : Str → Option Value) (base : Heap) (k : Nat) (a : Addr) (sp : Sp) : Prop := ∃ fd, FnOk P w K mg base CX0 k a fd ["self"] sp ∧ Binds K fd ["self"] []
theorem spB1_len {R : List Nat → V → Hp → Prop} (vs : List V) (H : Hp) (Q : VK) (E : XK) (h : spB1 K T R vs H Q E) : vs.length = 1 := by
  obtain ⟨b, ll, js, rfl, _⟩ := h
  rfl
theorem ok_all_lines (W : HW P w K mg base T) : Getter P w K mg base 1 (gAd K ("Buffer", some "all_lines")) (spB1 K T fun js v H => ∃ lt, v = .ref lt ∧ SqT K H lt (js.map lnV)) := by
  refine hand_fn (d := e_b_all_lines) (W.gd _ (List.mem_of_getElem? (i := 0) rfl)) rfl rfl hc_b_all_lines spB1_len (fun _ _ _ _ _ _ us hl => match us, hl with | [_], _ => by kernel_rfl)
    fun cdv A outer s H vs Q E hr h => ⟨_, pss_one (ps_ret (pe_ix ix_tup (pe_fld (pv 0) rfl) pe_int (fun _ _ => rfl))), ?_⟩
  obtain ⟨b, ll, js, rfl, hB, hQ⟩ := h
  obtain ⟨dx, tp, lt, sv, wk, tot, lv, h1, h2, h3, h4, h5, h6⟩ := hB.ex
  exact ⟨_, rfl, b, _, dx, _, _, rfl, h1, W.cl (by decide), W.na (by decide), rfl, tp, _, _, _, rfl, rfl, h2, rfl, hQ _ _ (Same.refl H) ⟨lt, rfl, h3⟩⟩
theorem ok_b_spot (W : HW P w K mg base T) : Getter P w K mg base 1 (gAd K ("Buffer", some "spot")) (spB1 K T fun js v H => Rep K T H v (spotD (runS s0 js))) := by
  refine hand_fn (d := e_b_spot) (W.gd _ (List.mem_of_getElem? (i := 3) rfl)) rfl rfl hc_b_spot spB1_len (fun _ _ _ _ _ _ us hl => match us, hl with | [_], _ => by kernel_rfl)
    fun cdv A outer s H vs Q E hr h => ⟨_, pss_one (ps_ret (pe_ix ix_tup (pe_fld (pv 0) rfl) pe_int (fun _ _ => rfl))), ?_⟩
  obtain ⟨b, ll, js, rfl, hB, hQ⟩ := h
  obtain ⟨dx, tp, lt, sv, wk, tot, lv, h1, h2, h3, h4, h5, h6⟩ := hB.ex
  exact ⟨_, rfl, b, _, dx, _, _, rfl, h1, W.cl (by decide), W.na (by decide), rfl, tp, _, _, _, rfl, rfl, h2, rfl, hQ _ _ (Same.refl H) h6⟩
theorem ok_b_len (W : HW P w K mg base T) : ∃ fd, FnOk P w K mg base CX0 1 (He.fAd K ("Buffer", some "__len__")) fd ["self"] (spB1 K T fun js v H => v = .int js.length) ∧ Binds K fd ["self"] [] := by
  refine hand_fn (d := e_b_len) (W.hd _ (List.mem_of_getElem? (i := 11) rfl)) rfl rfl hc_b_len spB1_len (fun _ _ _ _ _ _ us hl => match us, hl with | [_], _ => by kernel_rfl)
    fun cdv A outer s H vs Q E hr h => ⟨_, pss_one (ps_ret (pe_callB call_len_seq (by rfl) (W.free _ (by decide)) PySem.boot_len (pa_cons (pe_ix ix_tup (pe_fld (pv 0) rfl) pe_int (fun _ _ => rfl)) pa_nil))), ?_⟩
  obtain ⟨b, ll, js, rfl, hB, hQ⟩ := h
  obtain ⟨dx, tp, lt, sv, wk, tot, lv, h1, h2, h3, h4, h5, h6⟩ := hB.ex
  refine ⟨_, rfl, b, _, dx, _, _, rfl, h1, W.cl (by decide), W.na (by decide), rfl, tp, _, _, _, rfl, rfl, h2, rfl, ?_⟩
  refine ⟨lt, _, rfl, .inr h3, ?_⟩
  exact hQ _ _ (Same.refl H) (by rw [List.length_map])
theorem ok_b_verdict (W : HW P w K mg base T) : Getter P w K mg base 1 (gAd K ("Buffer", some "verdict")) (spB1 K T fun js v H => v = .str (toS (verdR (runS s0 js)))) := by
  refine hand_fn (d := e_b_verdict) (W.gd _ (List.mem_of_getElem? (i := 2) rfl)) rfl rfl hc_b_verdict spB1_len (fun _ _ _ _ _ _ us hl => match us, hl with | [_], _ => by kernel_rfl)
    fun cdv A outer s H vs Q E hr h => ⟨_, pss_cons (ps_asg (pe_fld (pv 0) rfl) (pg_tup rfl (pgs_cons (pg_name (i := 1) hc_b_verdict.nd rfl (Or.inl rfl)) (pgs_cons (pg_name (i := 2) hc_b_verdict.nd rfl (Or.inl rfl)) (pgs_cons (pg_name (i := 3) hc_b_verdict.nd rfl (Or.inl rfl)) (pgs_cons (pg_name (i := 4) hc_b_verdict.nd rfl (Or.inl rfl)) (pgs_cons (pg_name (i := 5) hc_b_verdict.nd rfl (Or.inl rfl)) pgs_nil)))))))
      (pss_cons (ps_if (pt_cmpR op_notN (pv 3) pe_non (nomark _)) (pss_one (ps_ret pe_str)) pss_nil)
      (pss_cons (ps_if (pt_cmpR op_eq (pe_ix ix_tup (pe_fld (pe_ix ix_list (pv 2) (pe_un un_neg pe_int) (fun _ _ => rfl)) rfl) pe_int (fun _ _ => rfl)) pe_str (nomark _)) (pss_one (ps_ret pe_str)) pss_nil)
      (pss_one (ps_ret (pe_ifExp (pt_cmpR (op_eqR (T := T) hr.units0) (pe_fld (pe_ix ix_list (pv 2) (pe_un un_neg pe_int) (fun _ _ => rfl)) rfl) (pe_tup pa_nil) (nomark _)) pe_str pe_str))))), ?_⟩
  obtain ⟨b, ll, js, rfl, hB, hQ⟩ := h
  obtain ⟨dx, tp, lt, sv, wk, tot, lv, h1, h2, h3, h4, h5, h6⟩ := hB.ex
  refine ⟨_, rfl, b, _, dx, _, _, rfl, h1, W.cl (by decide), W.na (by decide), rfl, tp, _, rfl, h2, rfl, ?_⟩
  refine ⟨_, _, rfl, _, _, rfl, _, _, rfl, _, _, rfl, _, _, rfl, rfl, ?_⟩
  have hlast := leads_m1 js
  cases er : runS s0 js with
  | inr p =>
    rw [er] at h6
    obtain ⟨q, vs', rfl, _, _⟩ := rep_tup h6
    refine ⟨_, rfl, rfl, true, rfl, iteT ?_⟩
    exact hQ _ _ (Same.refl H) (by show _ = V.str (toS (verdR (runS s0 js))); rw [er]; rfl)
  | inl t =>
    rw [er] at h6 hlast
    cases rep_non h6
    obtain ⟨v, hv1, hv2⟩ := h5.atI hlast
    have hok := runS_ok s0_ok hB.ok er
    obtain ⟨lvs, g0, gr, fr, ph, tk, eS, eg, el⟩ := stP_shape hok
    have hv2 : Rep K T H v (stP t) := hv2
    rw [eS] at hv2
    obtain ⟨a1, C1, dx1, fs1, u1, rfl, i1, i2, i3, i4, i5⟩ := fld_of W hv2 (i := 1) (x := "goal") rfl rfl
    obtain ⟨g, gvs, rfl, j1, j2⟩ := rep_tup i5
    obtain ⟨a0, C0, dx0, fs0, u0, e0, k1, k2, k3, k4, k5⟩ := fld_of W hv2 (i := 0) (x := "levels") rfl rfl
    cases e0
    refine ⟨_, rfl, rfl, false, rfl, iteF ?_⟩
    cases j2 with
    | cons j3 j4 =>
      cases rep_str j3
      refine ⟨_, rfl, 1, rfl, ll, lv, -1, _, rfl, rfl, SqL.of h4, hv1, a1, C1, dx1, fs1, _, rfl, i1, i2, i3, i4, g, _, 0, _, rfl, rfl, j1, atI_nat (j := 0) rfl, rfl, _, rfl, ?_⟩
      have e1 : decide (V.str (toS g0) = V.str "done") = decide (verd t = tComplete) := by
        rw [← eg, beqS_dec]
        have : (V.str (toS g0) = V.str "done") ↔ toS g0 = toS [c100, c111, c110, c101] := by
          have hd : (toS [c100, c111, c110, c101] : Str) = "done" := by decide +kernel
          rw [hd]
          exact ⟨fun h => V.str.inj h, fun h => by rw [h]⟩
        exact decide_eq_decide.mpr this
      rw [e1]
      cases hc : decide (verd t = tComplete) with
      | true =>
        refine iteT ?_
        exact hQ _ _ (Same.refl H) (by show _ = V.str (toS (verdR (runS s0 js))); rw [er]; show _ = V.str (toS (verd t)); rw [of_decide_eq_true hc]; decide +kernel)
      | false =>
        have el := el hc
        refine iteF ?_
        refine ⟨_, rfl, 1, rfl, ll, lv, -1, _, rfl, rfl, SqL.of h4, hv1, a1, _, _, _, _, rfl, k1, k2, k3, k4, by decide, fun q hq => ?_⟩
        have sm := same_new (o := .tup []) hq
        refine ⟨.tup lvs, .tup [], _, k5.mono sm, .tup (SqT.of upd_same) .nil, eq_nil lvs, fun v' H' s' r => ⟨_, rep_bl r, ?_⟩⟩
        rw [el]
        have fin : ∀ z : Str, z = toS (verd t) → Q (.str z) H' := fun z hz => hQ _ _ (sm.trans s') (by show _ = V.str (toS (verdR (runS s0 js))); rw [er, hz]; rfl)
        cases he : decide (verd t = tEmpty) with
        | true => exact iteT (fin _ (by rw [of_decide_eq_true he]; decide +kernel))
        | false =>
          refine iteF (fin _ ?_)
          have h7 : verd t = tIncomplete := by
            rcases verdR_cases (.inl t) with z | z | z | z
            · exact absurd z (of_decide_eq_false hc)
            · exact absurd z (of_decide_eq_false he)
            · exact z
            · exfalso
              have z : verd t = tWrong := z
              match t with
              | .n 0 => exact absurd z (by decide)
              | .n 1 => exact absurd z (by decide)
              | .n (i + 2) => exact absurd (show tIncomplete = tWrong from z) (by decide)
              | .b ks t => exact absurd (show tIncomplete = tWrong from z) (by decide)
          rw [h7]
          decide +kernel
end
end Rp
namespace Rp
open PySem PySem.Spec PyProof.Rows L2
section
variable {P : Program} {w : World} {K : PySem.W.Frag} {mg : Str → Option Value} {base : Heap} {T : Cl}
def lnNV (j : Nat) : V := .str (toS (ln j))
theorem lnNV_eq {j : Nat} (h : j < 27) : lnNV j = .str (toS (lnT j) ++ "\n") := by
  have e : ("\n" : Str) = toS [c10] := by decide +kernel
  unfold lnNV
  rw [(ln_split h).1, e, toS_app]
/-- [line + '\n' for line in lines] -/
theorem lc_lines {J : It} {σ : L2.St} {H1 : Hp} {D : Addr} {Qd : Hp → Prop} {js : List Nat} {i : Nat} {te : TE} (hj : Lines js) (hl : js.length ≤ 1000) (wk : Wks J H1 (js.map lnV)) (hD : H1 D = none)
    (he : ∀ (a : Str) (H : Hp) (Q : VK), a.length ≤ 100 → Q (.str (a ++ "\n")) H → te ((L2.wipe σ [i]).set i (some (.str a))) H Q) (hQ : ∀ H', Same H1 H' → H' D = some (.lst (js.map lnNV)) → Qd H') :
    ∃ W : Nat → Nat → Hp → Prop, (∃ m, W 0 m (upd H1 D (.lst []))) ∧ ∀ q m H, W q m H →
      (J.stop q H ∧ Qd H) ∨ (J.go q H ∧ ∃ Nx : Hp → Prop, (∀ H', Nx H' → ∃ m', m' < m ∧ W (q + 1) m' H') ∧ ∀ x H', J.yld q H x H' → gName i x (L2.wipe σ [i]) H' fun σ2 H2 => L2.wipe σ2 [i] = L2.wipe σ [i] ∧ tYes σ2 H2 fun b H3 =>
        if b = true then te σ2 H3 fun y H4 => ∃ acc, H4 D = some (.lst acc) ∧ acc.length < sizeLine ∧ Nx (upd H4 D (.lst (acc ++ [y]))) else Nx H3) := by
  refine lc_gen wk (fun q H => Same H1 H ∧ H D = some (.lst ((js.take q).map lnNV))) ⟨same_new hD, upd_same⟩ (fun q H h => h.1) ?_ ?_
  · rintro q x H hx ⟨sm, hHD⟩
    rw [List.getElem?_map] at hx
    obtain ⟨j, hj1, rfl⟩ := Option.map_eq_some_iff.mp hx
    have hj0 : j < 27 := hj j (List.mem_of_getElem? hj1)
    refine ⟨?_, ?_⟩
    · show ((σ.set i none).set i (some (lnV j))).set i none = σ.set i none
      rw [List.set_set, List.set_set]
    · unfold tYes
      simp only [if_true]
      refine he (toS (lnT j)) H _ (by rw [toS_len]; have := (ln_split hj0).2; omega) ⟨_, hHD, ?_, ?_, ?_⟩
      · rw [List.length_map, List.length_take, sizeLine_eq]
        omega
      · intro b o e
        rw [upd_ne (ne_of_none e hD)]
        exact sm _ _ e
      · rw [upd_same]
        congr 2
        rw [List.take_add_one, hj1, List.map_append]
        show _ = _ ++ [lnNV j]
        rw [lnNV_eq hj0]
  · rintro H ⟨sm, hHD⟩
    rw [List.length_map, List.take_length] at hHD
    exact hQ H sm hHD
theorem join_text {js : List Nat} : Txt.join (toS []) ((js.map ln).map toS) = toS (textS js) := join_ok (js.map ln)
theorem join_sum {js : List Nat} (hj : Lines js) (hl : js.length ≤ 10) : (((js.map ln).map toS).map (·.length)).sum + ((js.map ln).map toS).length * (toS []).length ≤ 16777216 := by
  rw [flat_len]
  have h := lines_len20 hj
  unfold lenS textS at h
  show _ + _ * 0 ≤ _
  rw [Nat.mul_zero, Nat.add_zero]
  omega
theorem ok_b_text (W : HW P w K mg base T) : Getter P w K mg base 1 (gAd K ("Buffer", some "text")) (spB1 K T fun js v H => v = .str (toS (textS js))) := by
  refine hand_fn (d := e_b_text) (W.gd _ (List.mem_of_getElem? (i := 1) rfl)) rfl rfl hc_b_text spB1_len (fun _ _ _ _ _ _ us hl => match us, hl with | [_], _ => by kernel_rfl)
    fun cdv A outer s H vs Q E hr h => ⟨_, pss_one (ps_ret (pe_join pe_str (pe_lc (own := [("line", 1)]) (g := gName 1) (tt := tYes) rfl hc_b_text.nd (pi_tup (pe_ix ix_tup (pe_fld (pv 0) rfl) pe_int (fun _ _ => rfl))) (blkOk_by (own := [("line", 1)]) (N := H_b_text) (sc := defScope h_b_text) (by decide +kernel)) (fun _ _ _ _ _ => pg_name (i := 1) hc_b_text.nd rfl (Or.inl rfl)) (fun _ _ _ _ _ => pts_nil) (fun _ _ _ _ _ => pe_op op_add_str (pv 1) pe_str)))), ?_⟩
  obtain ⟨b, ll, js, rfl, hB, hQ⟩ := h
  obtain ⟨dx, tp, lt, sv, wk, tot, lv, h1, h2, h3, h4, h5, h6⟩ := hB.ex
  refine ⟨⟨_, rfl⟩, _, rfl, b, _, dx, _, _, rfl, h1, W.cl (by decide), W.na (by decide), rfl, tp, _, _, _, rfl, rfl, h2, rfl, lt, rfl, ⟨_, h3⟩, fun D hD => ?_⟩
  refine lc_lines hB.ok (Nat.le_trans hB.len (by decide)) (wks_tup h3) hD (fun a H' Q' ha q => ?_) fun H' sm hHD => ?_
  · exact ⟨_, rfl, _, _, rfl, rfl, by rw [sizeLine_eq]; show a.length + 1 ≤ _; omega, q⟩
  · refine ⟨toS [], D, (js.map ln).map toS, rfl, rfl, .inl (.inl (.inl (by rw [hHD, List.map_map, List.map_map]; rfl))), join_sum hB.ok hB.len, ?_⟩
    rw [join_text]
    exact hQ _ _ sm rfl
end
end Rp
namespace Rp
open PySem PySem.Spec PyProof.Rows L2
section
variable {P : Program} {w : World} {K : PySem.W.Frag} {mg : Str → Option Value} {base : Heap} {T : Cl}
def spReadOn (K : PySem.W.Frag) : Sp := fun vs H Q _ => ∃ lt v, vs = [.ref lt, .int 0, v] ∧ SqT K H lt [] ∧ ∀ H' l t, Same H H' → H l = none → H' l = some (.lst []) → H' t = some (.tup [.ref l, .non, .int 0]) → Q (.ref t) H'
theorem ok_read_on (W : HW P w K mg base T) : FnR P w K mg base CX0 1 (He.fAd K ("read_on", none)) (spReadOn K) := by
  refine hand_R (hand_fn (d := e_read_on) (W.hd _ (List.mem_of_getElem? (i := 1) rfl)) rfl rfl hc_read_on (fun vs H Q E h => ?_) (fun _ _ _ _ _ _ us hl => match us, hl with | [_, _, _], _ => by kernel_rfl)
    fun cdv A outer s H vs Q E hr h => ⟨_, PSs.nox (pss_cons (ps_set (i := 3) hc_read_on.nd rfl (Or.inl rfl) (pe_lst pa_nil)) (pss_cons (ps_set (i := 4) hc_read_on.nd rfl (Or.inl rfl) (pv 2))
      (pss_cons (ps_for PassesOwn.never rfl (pi_range2 rfl (W.free _ (by decide)) (pa_cons (pv 1) (pa_cons (pe_callB call_len_seq (by rfl) (W.free _ (by decide)) PySem.boot_len (pa_cons (pv 0) pa_nil)) pa_nil))) (pg_name (i := 5) hc_read_on.nd rfl (Or.inl rfl)) pss_never)
      (pss_one (ps_ret (pe_tup (pa_cons (pv 3) (pa_cons pe_non (pa_cons (pe_callB call_len_seq (by rfl) (W.free _ (by decide)) PySem.boot_len (pa_cons (pv 3) pa_nil)) pa_nil))))))))), ?_⟩)
  · obtain ⟨lt, v, rfl, _⟩ := h
    rfl
  · obtain ⟨lt, v, rfl, hlt, hQ⟩ := h
    refine ⟨by decide, fun l hl => ?_⟩
    refine ⟨_, rfl, ?_⟩
    have sm := same_new (o := .lst []) hl
    refine ⟨_, rfl, _, rfl, lt, [], rfl, .inr (sqT_same sm hlt), 0, 0, rfl, by decide, ?_⟩
    refine for_range (n := (0 - 0 : Int).toNat) (fun i σ' H' => i = 0 ∧ σ' = _ ∧ H' = _) ⟨rfl, rfl, rfl⟩ (fun i _ _ hi _ => absurd (show i < 0 from hi) (Nat.not_lt_zero i)) ?_
    rintro σ' H' ⟨_, rfl, rfl⟩
    refine ⟨_, rfl, _, rfl, l, [], rfl, .inl (SqL.of upd_same), by show 3 ≤ sizeLine; decide, fun t ht => ?_⟩
    refine hQ _ l t (fun b o e => ?_) hl ?_ upd_same
    · have b1 := sm _ _ e
      exact same_new ht _ _ b1
    · exact same_new ht _ _ upd_same
end
end Rp
namespace Rp
open PySem PySem.Spec PyProof.Rows L2
section
variable {P : Program} {w : World} {K : PySem.W.Frag} {mg : Str → Option Value} {base : Heap} {T : Cl}
theorem repS_none {H : Hp} {σ : L2.St} : RepS K T H σ (List.replicate σ.length none) := ⟨by rw [List.length_replicate], fun i d h => by
  rw [List.getElem?_replicate] at h
  split at h
  · cases Option.some.inj h
  · cases h⟩
/-- State() -/
theorem pe_st0 {X : Cx} {p pos : Pos} (W : HW X.prog X.w X.K X.mg X.base T) (hc : X.calm = true) (nd : X.N.Nodup) (hr : Room 32 X.A) (hg : Gl X "State") : PE X (.Call (.Name "State" p) [] [] pos) (fun σ H Q => Got X.K T H (stP s0) Q) := by
  have Fx := facts_of W.dh.hf W.B hc nd hr
  have hg2 : glB X.env.scope "State" = true := by
    unfold glB
    have : X.env.scope.names.lookup ("State" : Str) = some NameKind.globalImplicit := hg
    rw [this]
  refine (q_new0 Fx (hF_ok 30) (by decide) hg2 rfl).wk fun σ H Q k => ?_
  refine ⟨List.replicate σ.length none, stP s0, repS_none, ?_, k⟩
  show (match some [] with
    | some ds => FF 30 0 ds
    | none => none) = _
  exact st0_eq 29
def spBInit (K : PySem.W.Frag) (T : Cl) : Sp := fun vs H Q _ => ∃ x dx, vs = [.ref x] ∧ H x = some (.ins (cAd K "Buffer") dx []) ∧ ∀ H' ll, Kp [x] H H' → H ll = none → BufS K T H' x ll [] → Q .non H'
theorem rep_leads0 {H : Hp} {v : V} (r : Rep K T H v (stP s0)) : RepL K T H [v] (leadsD []) := .cons r .nil
theorem ok_b_init (W : HW P w K mg base T) : FnR P w K mg base CX0 33 (He.fAd K ("Buffer", some "__init__")) (spBInit K T) := by
  obtain ⟨fd, D⟩ := W.hd e_b_init (List.mem_of_getElem? (i := 10) rfl)
  obtain ⟨oc, od, dV, kV, doc, pm, an, cdv, ct, osl, rfl, lk, hcd, hD, hK⟩ := D.ex
  obtain rfl : dV = .none := by
    rcases hD with ⟨_, e⟩ | ⟨e, _⟩
    · exact e
    · exact absurd rfl e
  refine (StX.fn_star (ps := ["self"]) (pv := "lines") (N := H_b_init) (k := 32) (sp := fun vs H Q _ => ∃ x dx lt, vs = [.ref x, .ref lt] ∧ H x = some (.ins (cAd K "Buffer") dx []) ∧ H lt = some (.tup []) ∧ ∀ H' ll, Kp [x] H H' → H ll = none → BufS K T H' x ll [] → Q .non H') lk hcd hc_b_init StX.cxUp_none (fun us rest hl => match us, hl, rest with | [_], _, [] => by kernel_rfl | [_], _, _ :: _ => by kernel_rfl) (fun A outer s H vs Q E hr h => ?_)).imp fun vs H Q E ⟨x, dx, e, hx, k⟩ => ?_
  · obtain ⟨x, dx, lt, rfl, hx, hlt, hQ⟩ := h
    obtain ⟨t300, h300⟩ := W.most_
    have xl : x ≠ lt := fun z => by rw [z, hlt] at hx; cases hx
    refine ⟨_, PSs.nox (pss_cons (ps_for PassesOwn.never rfl (pi_tup (pv 1)) (pg_name (i := 2) hc_b_init.nd rfl (Or.inl rfl)) pss_never)
      (pss_cons (ps_if (pt_cmpR op_gt (pe_callB call_len_seq (by rfl) (W.free _ (by decide)) PySem.boot_len (pa_cons (pv 1) pa_nil)) (pe_glob rfl h300 (show L2.RelV (.int 300) (.int 300 t300) from ⟨_, rfl⟩)) (nomark _)) pss_never pss_nil)
      (pss_cons (ps_set (i := 3) hc_b_init.nd rfl (Or.inl rfl) (pe_st0 W rfl hc_b_init.nd hr rfl))
      (pss_cons (ps_asg (pe_callR (E := E0) (ok_read_on W) (hr.mono (by decide)) rfl (W.glo _ (by decide)) (W.hd e_read_on (List.mem_of_getElem? (i := 1) rfl)).choose_spec.kp pass0 (pa_cons (pv 1) (pa_cons pe_int (pa_cons (pv 3) pa_nil))) rfl rfl)
        (pg_tup rfl (pgs_cons (pg_name (i := 4) hc_b_init.nd rfl (Or.inl rfl)) (pgs_cons (pg_name (i := 5) hc_b_init.nd rfl (Or.inl rfl)) (pgs_cons (pg_name (i := 6) hc_b_init.nd rfl (Or.inl rfl)) pgs_nil)))))
      (pss_one (ps_fld (pv 0) (pe_tup (pa_cons (pv 1) (pa_cons (pe_lst (pa_cons (pv 3) (StX.pa_star (pv 4) pa_nil rfl))) (pa_cons (pv 5) (pa_cons (pv 6) (pa_cons (pv 6) pa_nil)))))) rfl)))))), ?_⟩
    refine ⟨_, rfl, lt, rfl, ⟨[], SqT.of hlt⟩, ?_⟩
    refine for_tup (K := K) (a := lt) (xs := []) (fun i σ' H' => i = 0 ∧ _ = σ' ∧ H = H') ⟨rfl, rfl, rfl⟩ (fun i σ' H' _ hp => by obtain ⟨_, _, rfl⟩ := hp; exact SqT.of hlt) (fun i x σ' H' hx _ => by cases hx) ?_
    rintro σ' H' ⟨_, rfl, rfl⟩
    refine ⟨_, rfl, lt, [], rfl, .inr (SqT.of hlt), _, _, rfl, rfl, _, rfl, iteF ?_⟩
    intro v H1 s1 r1
    refine ⟨_, rfl, _, rfl, lt, v, rfl, SqT.of (s1 _ _ hlt), fun H2 l t s2 hl hl2 ht => ?_⟩
    refine ⟨t, _, rfl, SqT.of ht, rfl, _, _, rfl, _, _, rfl, _, _, rfl, rfl, ?_⟩
    refine ⟨_, rfl, _, rfl, _, rfl, l, [], rfl, .inr (SqL.of hl2), by show 1 ≤ sizeLine; decide, fun q hq => ?_⟩
    refine ⟨_, rfl, _, rfl, _, rfl, by show 5 ≤ sizeLine; decide, fun tp htp => ?_⟩
    have htp : upd H2 q (.lst [v]) tp = none := htp
    have s3 := same_new (o := .lst [v]) hq
    have s4 := same_new (o := .tup [.ref lt, .ref q, .non, .int 0, .int 0]) htp
    have hx4 : upd (upd H2 q (.lst [v])) tp (.tup [.ref lt, .ref q, .non, .int 0, .int 0]) x = some (.ins (cAd K "Buffer") dx []) := s4 _ _ (s3 _ _ (s2 _ _ (s1 _ _ hx)))
    refine ⟨_, rfl, x, _, dx, _, rfl, hx4, W.cl (by decide), W.na (by decide), by decide, ?_⟩
    have hq0 : H q = none := by
      cases e : H q with
      | none => rfl
      | some o =>
        rw [s2 _ _ (s1 _ _ e)] at hq
        cases hq
    refine hQ _ q (fun b o e hb => ?_) hq0 ?_
    · have hbx : b ≠ x := fun z => hb (by rw [z]; exact List.mem_cons_self ..)
      rw [upd_ne hbx]
      exact s4 _ _ (s3 _ _ (s2 _ _ (s1 _ _ e)))
    · have xq : q ≠ x := fun z => by rw [z, s2 _ _ (s1 _ _ hx)] at hq; cases hq
      have xt : tp ≠ x := fun z => by rw [z, s3 _ _ (s2 _ _ (s1 _ _ hx))] at htp; cases htp
      have k2 : ∀ b o, upd (upd H2 q (.lst [v])) tp (.tup [.ref lt, .ref q, .non, .int 0, .int 0]) b = some o → b ≠ x → upd (upd (upd H2 q (.lst [v])) tp (.tup [.ref lt, .ref q, .non, .int 0, .int 0])) x (.ins (cAd K "Buffer") dx (putF "own_state" (.ref tp) [])) b = some o := fun b o e hb => by rw [upd_ne hb]; exact e
      have hrep : Rep K T (upd (upd H2 q (.lst [v])) tp (.tup [.ref lt, .ref q, .non, .int 0, .int 0])) v (stP s0) := ((r1.mono s2).mono s3).mono s4
      refine ⟨⟨dx, tp, lt, .non, 0, 0, [v], upd_same, .inl (.inl ?_), .inl (.inl ?_), ?_, ?_, .non⟩, fun j hj => absurd hj List.not_mem_nil, by decide⟩
      · exact k2 _ _ upd_same xt
      · exact k2 _ _ (s4 _ _ (s3 _ _ (s2 _ _ (s1 _ _ hlt)))) (Ne.symm xl)
      · exact k2 _ _ (s4 _ _ upd_same) xq
      · refine rep_leads0 (Rep.kp (fp := [x]) W.tat (fun b o e hb => k2 b o e fun z => hb (by rw [z]; exact List.mem_cons_self ..)) (fun b hb o e => ?_) hrep (by kernel_rfl))
        obtain rfl : b = x := List.mem_singleton.mp hb
        rw [hx4] at e
        cases e
        exact W.apart _ (by decide)
  · subst e
    refine ⟨[.ref x], [], rfl, rfl, by decide, fun p hp => ?_⟩
    have sm := same_new (o := .tup []) hp
    refine ⟨x, dx, p, rfl, sm _ _ hx, upd_same, fun H' ll kp hll hb => k H' ll (fun b o e hb => kp b o (sm _ _ e) hb) ?_ hb⟩
    cases e : H ll with
    | none => rfl
    | some o =>
      rw [sm _ _ e] at hll
      cases hll
end
end Rp
namespace Rp
open PySem PySem.Spec PyProof.Rows L2
mutual
def pd : D → PyData
  | .non => .none
  | .bl b => .bool b
  | .int i => .int i
  | .str s => .str (toS s)
  | .tup xs => .tuple (pds xs)
  | .lst xs => .list (pds xs)
  | .dic _ _ => .none
  | .ins _ _ => .none
def pds : List D → List PyData
  | [] => []
  | d :: ds => pd d :: pds ds
end
mutual
/-- no dict, no instance in it -/
def flatD : D → Bool
  | .tup xs => flatDs xs
  | .lst xs => flatDs xs
  | .dic _ _ => false
  | .ins _ _ => false
  | _ => true
def flatDs : List D → Bool
  | [] => true
  | d :: ds => flatD d && flatDs ds
end
mutual
def depD : D → Nat
  | .tup xs => depDs xs + 1
  | .lst xs => depDs xs + 1
  | _ => 0
def depDs : List D → Nat
  | [] => 0
  | d :: ds => max (depD d) (depDs ds)
end
section
variable {K : PySem.W.Frag} {T : Cl} {H : Hp}
mutual
theorem dp_of : ∀ {v : V} {d : D}, Rep K T H v d → flatD d = true → Dp K H v (pd d)
  | _, _, .non, _ => .non
  | _, _, .bl b, _ => .bl b
  | _, _, .int i, _ => .int i
  | _, _, .str s, _ => .str _
  | _, _, .tup h r, n => .tup h (dps_of r n)
  | _, _, .lst h r, n => .lst (.inl h) (dps_of r n)
  | _, _, .dic _ _ _, n => by cases n
  | _, _, .ins _ _ _, n => by cases n
theorem dps_of : ∀ {vs : List V} {ds : List D}, RepL K T H vs ds → flatDs ds = true → DpAll K H vs (pds ds)
  | _, _, .nil, _ => .nil
  | _, _, .cons a b, n => .cons (dp_of a (by have := Bool.and_eq_true_iff.mp (show (flatD _ && flatDs _) = true from n); exact this.1)) (dps_of b (by have := Bool.and_eq_true_iff.mp (show (flatD _ && flatDs _) = true from n); exact this.2))
end
end
mutual
theorem pd_lay : ∀ d : D, (pd d).canLay0 = true
  | .non => rfl
  | .bl _ => rfl
  | .int _ => rfl
  | .str s => by
    show PyData.strOk (toS s) = true
    unfold PyData.strOk toS
    rw [Array.all_eq_true]
    intro i hi
    simp only [List.size_toArray, List.length_map] at hi
    have : (s.map (·.val)).toArray[i] = s[i].val := by simp
    rw [this]
    exact decide_eq_true s[i].isLt
  | .tup xs => pds_lay xs
  | .lst xs => pds_lay xs
  | .dic _ _ => rfl
  | .ins _ _ => rfl
theorem pds_lay : ∀ ds : List D, PyData.canLayAll0 (pds ds) = true
  | [] => rfl
  | d :: ds => by
    show ((pd d).canLay0 && PyData.canLayAll0 (pds ds)) = true
    rw [pd_lay d, pds_lay ds]
    rfl
end
mutual
theorem pd_dep : ∀ d : D, (pd d).depth ≤ depD d
  | .non => Nat.le_refl _
  | .bl _ => Nat.le_refl _
  | .int _ => Nat.le_refl _
  | .str s => Nat.le_refl _
  | .tup xs => Nat.succ_le_succ (pds_dep xs)
  | .lst xs => Nat.succ_le_succ (pds_dep xs)
  | .dic _ _ => Nat.zero_le _
  | .ins _ _ => Nat.zero_le _
theorem pds_dep : ∀ ds : List D, PyData.depthAll (pds ds) ≤ depDs ds
  | [] => Nat.le_refl _
  | d :: ds => by
    show max (pd d).depth (PyData.depthAll (pds ds)) ≤ max (depD d) (depDs ds)
    have h1 := pd_dep d
    have h2 := pds_dep ds
    omega
end
theorem pd_shaped {d : D} (h : depD d ≤ 64) : SeqAt.shaped (pd d) = true := by
  unfold SeqAt.shaped
  rw [pd_lay, decide_eq_true (Nat.le_trans (pd_dep d) h)]
  rfl
def fsOf : D → List D
  | .ins _ fs => fs
  | _ => []
/-- what state.parts() gives -/
def parD (t : LS) : D := .tup (fsOf (stP t))
theorem parts_ok (m : Nat) {t : LS} {k : Nat} (h : okS k t) : FF (m + 1) 56 [stP t] = some (parD t) := by
  rw [← FM_eq]
  cases t with
  | n i =>
    have h : i < 29 := h
    match i, h with
    | 0, _ | 1, _ | 2, _ | 3, _ | 4, _ | 5, _ | 6, _ | 7, _ | 8, _ | 9, _ | 10, _ | 11, _ | 12, _ | 13, _ | 14, _ | 15, _ | 16, _ | 17, _ | 18, _ | 19, _ | 20, _ | 21, _ | 22, _ | 23, _ | 24, _ | 25, _ | 26, _ | 27, _ | 28, _ => kernel_rfl
    | n + 29, h => omega
  | b ks t => kernel_rfl
theorem dep_app : ∀ (xs ys : List D), depDs (xs ++ ys) = max (depDs xs) (depDs ys)
  | [], ys => (Nat.zero_max _).symm
  | x :: xs, ys => by
    show max (depD x) (depDs (xs ++ ys)) = max (max (depD x) (depDs xs)) (depDs ys)
    rw [dep_app xs ys, Nat.max_assoc]
theorem dep_frs : ∀ (bot : Bool) (ks : List Bool), depDs (frsP bot ks) ≤ 1
  | _, [] => Nat.zero_le _
  | bot, k :: r => by
    show max 1 (depDs (frsP false r)) ≤ 1
    have := dep_frs false r
    omega
theorem flat_app : ∀ (xs ys : List D), flatDs (xs ++ ys) = (flatDs xs && flatDs ys)
  | [], ys => rfl
  | x :: xs, ys => by
    show (flatD x && flatDs (xs ++ ys)) = ((flatD x && flatDs xs) && flatDs ys)
    rw [flat_app xs ys, Bool.and_assoc]
theorem flat_frs : ∀ (bot : Bool) (ks : List Bool), flatDs (frsP bot ks) = true
  | _, [] => rfl
  | bot, k :: r => by
    show (true && flatDs (frsP false r)) = true
    rw [flat_frs false r]
    rfl
theorem par_flat {t : LS} {k : Nat} (h : okS k t) : flatD (parD t) = true ∧ depD (parD t) ≤ 64 := by
  cases t with
  | n i =>
    have h : i < 29 := h
    match i, h with
    | 0, _ | 1, _ | 2, _ | 3, _ | 4, _ | 5, _ | 6, _ | 7, _ | 8, _ | 9, _ | 10, _ | 11, _ | 12, _ | 13, _ | 14, _ | 15, _ | 16, _ | 17, _ | 18, _ | 19, _ | 20, _ | 21, _ | 22, _ | 23, _ | 24, _ | 25, _ | 26, _ | 27, _ | 28, _ => exact ⟨by kernel_rfl, Nat.le_of_ble_eq_true (by kernel_rfl)⟩
    | n + 29, h => omega
  | b ks t =>
    obtain ⟨h1, _⟩ := h
    have hf : flatDs (frsP true ks ++ [frP1 ks.isEmpty (kOf t)]) = true := by rw [flat_app, flat_frs]; rfl
    have hd : depDs (frsP true ks ++ [frP1 ks.isEmpty (kOf t)]) ≤ 1 := by
      rw [dep_app]
      have := dep_frs true ks
      show max _ (max 1 0) ≤ 1
      omega
    have e1 : flatD (parD (.b ks t)) = (flatD lvB && (flatD goB && (flatDs (frsP true ks ++ [frP1 ks.isEmpty (kOf t)]) && (flatD (phB t).1 && (flatD (phB t).2 && true))))) := rfl
    have e2 : depD (parD (.b ks t)) = max (depD lvB) (max (depD goB) (max (depDs (frsP true ks ++ [frP1 ks.isEmpty (kOf t)]) + 1) (max (depD (phB t).1) (max (depD (phB t).2) 0)))) + 1 := rfl
    have h3 : depD lvB = 2 ∧ depD goB = 1 := ⟨by kernel_rfl, by kernel_rfl⟩
    have h4 : depD (phB t).1 ≤ 1 ∧ depD (phB t).2 ≤ 1 ∧ flatD (phB t).1 = true ∧ flatD (phB t).2 = true := by
      match t, h1 with
      | 0, _ | 1, _ | 2, _ | 3, _ | 4, _ | 5, _ | 6, _ | 7, _ => exact ⟨by decide, by decide, rfl, rfl⟩
      | n + 8, h => omega
    refine ⟨?_, ?_⟩
    · rw [e1, hf, h4.2.2.1, h4.2.2.2]
      kernel_rfl
    · rw [e2, h3.1, h3.2]
      omega
theorem inj_nn : ((List.range 29).all fun i => (List.range 29).all fun j => PyData.eqv (pd (.tup (fsOf (nth .non nP i)))) (pd (.tup (fsOf (nth .non nP j)))) == Nat.beq i j) = true := by kernel_rfl
theorem nofr_n : ((List.range 29).all fun i => match nth .non nP i with
  | .ins _ [_, _, .tup [], _, _] => true
  | _ => false) = true := by kernel_rfl
theorem inj_bb : ((List.range 8).all fun i => (List.range 8).all fun j => !(PyData.eqv (pd (phB i).1) (pd (phB j).1) && (PyData.eqv (pd (phB i).2) (pd (phB j).2) && (kOf i == kOf j))) || Nat.beq i j) = true := by kernel_rfl
theorem eq_fr {bot bot' k k' : Bool} (h : PyData.eqv (pd (frP1 bot k)) (pd (frP1 bot' k')) = true) : k = k' := by
  cases bot <;> cases bot' <;> cases k <;> cases k' <;> first | rfl | (exact absurd h (by decide +kernel))
theorem eq_frs : ∀ {bot bot' b1 b2 k1 k2 : Bool} {ks ks' : List Bool}, PyData.eqvAll (pds (frsP bot ks ++ [frP1 b1 k1])) (pds (frsP bot' ks' ++ [frP1 b2 k2])) = true → ks = ks' ∧ k1 = k2
  | bot, bot', b1, b2, k1, k2, [], [], h => by
    have h : (PyData.eqv (pd (frP1 b1 k1)) (pd (frP1 b2 k2)) && true) = true := h
    rw [Bool.and_true] at h
    exact ⟨rfl, eq_fr h⟩
  | bot, bot', b1, b2, k1, k2, [], k :: r, h => by
    have h : (PyData.eqv (pd (frP1 b1 k1)) (pd (frP1 bot' k)) && PyData.eqvAll [] (pds (frsP false r ++ [frP1 b2 k2]))) = true := h
    have := (Bool.and_eq_true_iff.mp h).2
    cases r <;> cases this
  | bot, bot', b1, b2, k1, k2, k :: r, [], h => by
    have h : (PyData.eqv (pd (frP1 bot k)) (pd (frP1 b2 k2)) && PyData.eqvAll (pds (frsP false r ++ [frP1 b1 k1])) []) = true := h
    have := (Bool.and_eq_true_iff.mp h).2
    cases r <;> cases this
  | bot, bot', b1, b2, k1, k2, k :: r, k' :: r', h => by
    have h : (PyData.eqv (pd (frP1 bot k)) (pd (frP1 bot' k')) && PyData.eqvAll (pds (frsP false r ++ [frP1 b1 k1])) (pds (frsP false r' ++ [frP1 b2 k2]))) = true := h
    obtain ⟨h1, h2⟩ := Bool.and_eq_true_iff.mp h
    obtain ⟨h3, h4⟩ := eq_frs (bot := false) (bot' := false) h2
    exact ⟨by rw [eq_fr h1, h3], h4⟩
theorem par_inj {t t' : LS} {m m' : Nat} (h : okS m t) (h' : okS m' t') (e : PyData.eqv (pd (parD t)) (pd (parD t')) = true) : t = t' := by
  cases t with
  | n i =>
    cases t' with
    | n j =>
      have h1 := List.all_eq_true.mp (List.all_eq_true.mp inj_nn i (List.mem_range.mpr h)) j (List.mem_range.mpr h')
      have e : PyData.eqv (pd (.tup (fsOf (nth .non nP i)))) (pd (.tup (fsOf (nth .non nP j)))) = true := e
      rw [e] at h1
      have h2 : Nat.beq i j = true := by
        cases hb : Nat.beq i j with
        | true => rfl
        | false => rw [hb] at h1; cases h1
      rw [Nat.eq_of_beq_eq_true h2]
    | b ks t =>
      exfalso
      have h1 := List.all_eq_true.mp nofr_n i (List.mem_range.mpr h)
      unfold parD stP at e
      simp only at e
      split at h1
      · rename_i c a1 a2 a3 a4 en
        rw [en] at e
        have e : (PyData.eqv (pd a1) (pd lvB) && (PyData.eqv (pd a2) (pd goB) && (PyData.eqvAll [] (pds (frsP true ks ++ [frP1 ks.isEmpty (kOf t)])) && _))) = true := e
        have := (Bool.and_eq_true_iff.mp (Bool.and_eq_true_iff.mp (Bool.and_eq_true_iff.mp e).2).2).1
        cases ks <;> cases this
      · cases h1
  | b ks t =>
    cases t' with
    | n i =>
      exfalso
      have h1 := List.all_eq_true.mp nofr_n i (List.mem_range.mpr h')
      unfold parD stP at e
      simp only at e
      split at h1
      · rename_i c a1 a2 a3 a4 en
        rw [en] at e
        have e : (PyData.eqv (pd lvB) (pd a1) && (PyData.eqv (pd goB) (pd a2) && (PyData.eqvAll (pds (frsP true ks ++ [frP1 ks.isEmpty (kOf t)])) [] && _))) = true := e
        have := (Bool.and_eq_true_iff.mp (Bool.and_eq_true_iff.mp (Bool.and_eq_true_iff.mp e).2).2).1
        cases ks <;> cases this
      · cases h1
    | b ks' t' =>
      have e : (PyData.eqv (pd lvB) (pd lvB) && (PyData.eqv (pd goB) (pd goB) && (PyData.eqvAll (pds (frsP true ks ++ [frP1 ks.isEmpty (kOf t)])) (pds (frsP true ks' ++ [frP1 ks'.isEmpty (kOf t')])) && (PyData.eqv (pd (phB t).1) (pd (phB t').1) && (PyData.eqv (pd (phB t).2) (pd (phB t').2) && true))))) = true := e
      simp only [Bool.and_eq_true, Bool.and_true] at e
      obtain ⟨_, _, e3, e4, e5⟩ := e
      obtain ⟨e6, e7⟩ := eq_frs e3
      have h1 := List.all_eq_true.mp (List.all_eq_true.mp inj_bb t (List.mem_range.mpr h.1)) t' (List.mem_range.mpr h'.1)
      rw [e4, e5, e7] at h1
      have : (kOf t' == kOf t') = true := by simp
      rw [this] at h1
      have h2 : Nat.beq t t' = true := by
        cases hb : Nat.beq t t' with
        | true => rfl
        | false => rw [hb] at h1; cases h1
      rw [e6, Nat.eq_of_beq_eq_true h2]
end Rp
namespace Rp
open PySem PySem.Spec PyProof.Rows L2
/-- a statement, a word on the state behind it, the rest -/
def tCut (t u : TS) : TS := fun D σ H => ∃ Mid : L2.St → Hp → Prop, t { D with nx := Mid } σ H ∧ ∀ σ' H', Mid σ' H' → u D σ' H'
theorem pss_cut {X : Cx} {st : Stmt} {rest : List Stmt} {t u : TS} (h1 : PS X st t) (h2 : PSs X rest u) : PSs X (st :: rest) (tCut t u) := by
  refine ⟨fun pins s σ H D I h => ?_⟩
  obtain ⟨Mid, hm, hu⟩ := h
  refine wpAny_execs_cons (thn (h1.run pins s σ H { D with nx := Mid } I hm) fun f s1 q => ?_)
  cases f with
  | next =>
    obtain ⟨σ', H', I', q⟩ := q
    exact h2.run pins s1 σ' H' D I' (hu σ' H' q)
  | ret v => exact q
  | brk => exact q
  | cont => exact q
theorem flat_rep {α : Type} (a : α) : ∀ n : Nat, (List.replicate n [a]).flatten = List.replicate n a
  | 0 => rfl
  | n + 1 => by
    rw [List.replicate_succ, List.flatten_cons, flat_rep a n, List.replicate_succ]
    rfl
theorem rep_nons {K : PySem.W.Frag} {T : Cl} {H : Hp} : ∀ n : Nat, RepL K T H (List.replicate n .non) (List.replicate n .non)
  | 0 => .nil
  | n + 1 => by
    rw [List.replicate_succ, List.replicate_succ]
    exact .cons .non (rep_nons n)
/-- wrong from a place on: the rest are no states -/
theorem leads_fill {js : List Nat} {k : Nat} (hk : k ≤ js.length) (h : (leadsS s0 js)[k]? = some none) : leadsD js = ((leadsS s0 js).take (k + 1)).map optS ++ List.replicate (js.length - k) .non := by
  obtain ⟨_, h2⟩ := leads_none k js s0 h
  have h3 : (leadsS s0 js).drop (k + 1) = List.replicate (js.length - k) none := by
    have : (leadsS s0 js).drop (k + 1) = ((leadsS s0 js).drop k).drop 1 := by rw [List.drop_drop]
    rw [this, h2, List.drop_replicate]
    congr 1
    omega
  unfold leadsD
  conv => lhs; rw [← List.take_append_drop (k + 1) (leadsS s0 js)]
  rw [List.map_append, h3, List.map_replicate]
  rfl
section
variable {P : Program} {w : World} {K : PySem.W.Frag} {mg : Str → Option Value} {base : Heap} {T : Cl}
theorem cut_to {xs : List V} {k : Nat} (h : k ≤ xs.length) : cutV xs none (some (k : Int)) = xs.take k := by
  unfold cutV
  rw [HT.sIx_none, HT.sIx_nat, List.drop_zero, Nat.min_eq_left h, Nat.sub_zero]
theorem cut_from {xs : List V} {k : Nat} (h : k ≤ xs.length) : cutV xs (some (k : Int)) none = xs.drop k := by
  unfold cutV
  rw [HT.sIx_none, HT.sIx_nat, Nat.min_eq_left h, List.take_of_length_le (by rw [List.length_drop]; exact Nat.le_refl _)]
theorem noL_nP : (nP.all noL) = true := by kernel_rfl
theorem noL_nth : ∀ (l : List D) (i : Nat), l.all noL = true → noL (nth .non l i) = true
  | [], _, _ => rfl
  | a :: _, 0, h => (Bool.and_eq_true_iff.mp (show (noL a && _) = true from h)).1
  | a :: r, i + 1, h => noL_nth r i (Bool.and_eq_true_iff.mp (show (noL a && r.all noL) = true from h)).2
theorem noL_frs : ∀ (bot : Bool) (ks : List Bool), noLs (frsP bot ks) = true
  | _, [] => rfl
  | bot, k :: r => by
    show (true && noLs (frsP false r)) = true
    rw [noL_frs false r]
    rfl
theorem noL_opt (o : Option LS) : noL (optS o) = true := by
  cases o with
  | none => rfl
  | some t =>
    cases t with
    | n i => exact noL_nth nP i noL_nP
    | b ks t =>
      have hf : noLs (frsP true ks ++ [frP1 ks.isEmpty (kOf t)]) = true := noLs_app (noL_frs true ks) rfl
      have e1 : noL (stP (.b ks t)) = (noL lvB && (noL goB && (noLs (frsP true ks ++ [frP1 ks.isEmpty (kOf t)]) && (noL (phB t).1 && (noL (phB t).2 && true))))) := rfl
      show noL (stP (.b ks t)) = true
      rw [e1, hf]
      unfold phB
      split <;> kernel_rfl
theorem noLs_opt : ∀ l : List (Option LS), noLs (l.map optS) = true
  | [] => rfl
  | o :: r => by
    show (noL (optS o) && noLs (r.map optS)) = true
    rw [noL_opt, noLs_opt r]
    rfl
theorem parts_get (W : HW P w K mg base T) {H : Hp} {v : V} {t : LS} {k : Nat} (hk : okS k t) (r : Rep K T H v (stP t)) : ∃ a dx fs, v = .ref a ∧ H a = some (.ins (T.at_ 0) dx fs) ∧ fs.lookup ("parts" : Str) = none ∧ ∃ ds d, RepL K T H [v] ds ∧ FF 30 56 ds = some d ∧ d = parD t := by
  obtain ⟨lv', g0, gr, fr, ph, tk, eS, _, _⟩ := stP_shape hk
  have r0 := r
  rw [eS] at r
  obtain ⟨a, dx, fs, rfl, h1, h2, h3⟩ := rep_ins r
  exact ⟨a, dx, fs, rfl, h1, look_not (h2.trans W.dh.hf.fld) (by decide), [stP t], parD t, .cons r0 .nil, parts_ok 29 hk, rfl⟩
/-- found leads js in part; what is known fits -/
structure Knows (js : List Nat) (f : Nat) (kd : List D) (sd : D) : Prop where
  len : kd.length = js.length - f + 1
  at_ : ∀ i, i ≤ js.length - f → ∃ o : Option LS, kd[i]? = some (optS o) ∧ ∀ t, o = some t → okS 10 t ∧ ((leadsS s0 js)[f + i]? = some (some t) → kd.drop i = ((leadsS s0 js).drop (f + i)).map optS ∧ sd = spotD (runS s0 js))
  none_ : (leadsS s0 js)[f]? = some none → sd = spotD (runS s0 js)
def spReread (K : PySem.W.Frag) (T : Cl) : Sp := fun vs H Q _ => ∃ lt la kn sv js f lv0 kv kd sd, vs = [.ref lt, .ref la, .ref kn, sv] ∧ Lines js ∧ js.length ≤ 10 ∧ f ≤ js.length ∧ SqT K H lt (js.map lnV) ∧ H la = some (.lst lv0) ∧ RepL K T H lv0 (((leadsS s0 js).take (f + 1)).map optS) ∧
  H kn = some (.lst kv) ∧ RepL K T H kv kd ∧ Rep K T H sv sd ∧ Knows js f kd sd ∧
  ∀ H' tp l lv sv' wk, Same H H' → H l = none → H' tp = some (.tup [.ref l, sv', .int wk]) → H' l = some (.lst lv) → RepL K T H' lv (leadsD js) → Rep K T H' sv' (spotD (runS s0 js)) → Q (.ref tp) H'
theorem ok_reread (W : HW P w K mg base T) : FnR P w K mg base CX0 33 (He.fAd K ("reread", none)) (spReread K T) := by
  obtain ⟨pa, hpa, Fpa⟩ := W.B.mt "parts" 56 rfl
  have nd := hc_reread.nd
  have hcl := W.dh.hf.cls
  refine hand_R (hand_fn (d := e_reread) (W.hd _ (List.mem_of_getElem? (i := 2) rfl)) rfl rfl hc_reread (fun vs H Q E h => ?_) (fun _ _ _ _ _ _ us hl => match us, hl with | [_, _, _, _], _ => by kernel_rfl)
    fun cdv A outer s H vs Q E hr h => ⟨_, PSs.nox (
      pss_cons (ps_par (i := 4) (j := 5) (by rfl) nd rfl rfl (by decide) rfl rfl (pa_cons (pe_op op_sub (pe_callB call_len_seq (by rfl) (W.free _ (by decide)) PySem.boot_len (pa_cons (pv 1) pa_nil)) pe_int) (pa_cons (pe_callTy call_list_of (by rfl) (W.free _ (by decide)) PyProof.Rows.boot_list (pa_cons (pv 1) pa_nil)) pa_nil)) (by rfl))
      (pss_cut (ps_for PassesOwn.never rfl (pi_range2 rfl (W.free _ (by decide)) (pa_cons (pv 4) (pa_cons (pe_callB call_len_seq (by rfl) (W.free _ (by decide)) PySem.boot_len (pa_cons (pv 0) pa_nil)) pa_nil))) (pg_name (i := 6) nd rfl (Or.inl rfl))
        (pss_cons (ps_set (i := 7) nd rfl (Or.inl rfl) (pe_ix ix_list (pv 2) (pe_op op_sub (pv 6) (pv 4)) (fun _ _ => rfl)))
        (pss_cons (ps_if (pt_cmpR op_isN (pe_ix ix_list (pv 5) (pv 6) (fun _ _ => rfl)) pe_non (nomark _)) (pss_one ps_break) pss_nil)
        (pss_cut (ps_if (PW.pt (pw_and (pt_cmpR op_notN (pv 7) pe_non (nomark _)) (pw_and1 (pt_cmpR (op_eqD hr.units) (pe_methR0 (E := E0) rfl rfl (pe_ix ix_list (pv 5) (pv 6) (fun _ _ => rfl)) hcl hpa Fpa hr pass0) (pe_methR0 (E := E0) rfl rfl (pv 7) hcl hpa Fpa hr pass0) (nomark _)))))
          (pss_one (ps_ret (pe_tup (pa_cons (pe_op op_cat (pe_slice sl_list (pv 5) po_none (po_some (pv 6))) (pe_slice sl_list (pv 2) (po_some (pe_op op_sub (pv 6) (pv 4))) po_none)) (pa_cons (pv 3) (pa_cons (pe_op op_sub (pv 6) (pv 4)) pa_nil)))))) pss_nil)
        (pss_cons (ps_asg (pe_pu W hr rfl rfl (pa_cons (pe_ix ix_list (pv 5) (pv 6) (fun _ _ => rfl)) (pa_cons (pe_op op_add_str (pe_ix ix_tup (pv 0) (pv 6) (fun _ _ => rfl)) pe_str) pa_nil))) (pg_tup rfl (pgs_cons (pg_name (i := 8) nd rfl (Or.inl rfl)) (pgs_cons (pg_name (i := 9) nd rfl (Or.inl rfl)) pgs_nil))))
        (pss_cons (ps_expr (pe_bm PySem.F.plainAttrs_list PySem.F.slot_list_append PySem.F.type_list_append mt_append (pv 5) (pa_cons (pv 8) pa_nil)))
        (pss_one (ps_if (pt_cmpR op_isN (pv 8) pe_non (nomark _))
          (pss_one (ps_ret (pe_tup (pa_cons (pe_op op_cat (pv 5) (pe_op op_rep (pe_lst (pa_cons pe_non pa_nil)) (pe_op op_sub (pe_op op_sub (pe_callB call_len_seq (by rfl) (W.free _ (by decide)) PySem.boot_len (pa_cons (pv 0) pa_nil)) (pv 6)) pe_int))) (pa_cons (pe_tup (pa_cons (pv 6) (pa_cons (pv 9) pa_nil))) (pa_cons (pe_op op_add (pe_op op_sub (pv 6) (pv 4)) pe_int) pa_nil)))))) pss_nil))))))))
      (pss_cons (ps_if (pt_cmpR op_isN (pe_ix ix_list (pv 5) (pe_un un_neg pe_int) (fun _ _ => rfl)) pe_non (nomark _))
        (pss_one (ps_ret (pe_tup (pa_cons (pe_op op_cat (pv 5) (pe_op op_rep (pe_lst (pa_cons pe_non pa_nil)) (pe_op op_sub (pe_op op_add (pe_callB call_len_seq (by rfl) (W.free _ (by decide)) PySem.boot_len (pa_cons (pv 0) pa_nil)) pe_int) (pe_callB call_len_seq (by rfl) (W.free _ (by decide)) PySem.boot_len (pa_cons (pv 5) pa_nil))))) (pa_cons (pv 3) (pa_cons pe_int pa_nil)))))) pss_nil)
      (pss_one (ps_ret (pe_tup (pa_cons (pv 5) (pa_cons pe_non (pa_cons (pe_op op_sub (pe_callB call_len_seq (by rfl) (W.free _ (by decide)) PySem.boot_len (pa_cons (pv 0) pa_nil)) (pv 4)) pa_nil))))))))), ?_⟩)
  · obtain ⟨lt, la, kn, sv, js, f, lv0, kv, kd, sd, rfl, _⟩ := h
    rfl
  · obtain ⟨lt, la, kn, sv, js, f, lv0, kv, kd, sd, rfl, hj, hjl, hf, hlt, hla, hlv, hkn, hkv, hsv, hk, hQ⟩ := h
    have hlen0 : lv0.length = f + 1 := by
      rw [hlv.length, List.length_map, List.length_take, leads_len]
      omega
    refine ⟨_, rfl, la, lv0, rfl, .inl (SqL.of hla), _, _, rfl, rfl, _, rfl, la, lv0, rfl, .inl (SqL.of hla), fun fa hfa => ?_⟩
    refine ⟨_, _, rfl, ?_⟩
    have e0 : ((lv0.length : Int) - 1) = (f : Int) := by rw [hlen0]; omega
    have sm0 := same_new (o := .lst lv0) hfa
    refine ⟨fun σ' H' => ∃ i x6 x7 x8 x9 fv, i ≤ js.length - f ∧ Same H H' ∧ σ' = [some (.ref lt), some (.ref la), some (.ref kn), some sv, some (.int ((lv0.length : Int) - 1)), some (.ref fa), x6, x7, x8, x9] ∧ H' fa = some (.lst fv) ∧ RepL K T H' fv (((leadsS s0 js).take (f + i + 1)).map optS) ∧ (((leadsS s0 js)[f + i]? = some none ∧ sd = spotD (runS s0 js)) ∨ (i = js.length - f ∧ ∃ t, (leadsS s0 js)[f + i]? = some (some t))), ?_, ?_⟩
    · refine ⟨_, rfl, _, rfl, lt, _, rfl, .inr (sqT_same sm0 hlt), _, _, rfl, by rw [List.length_map]; omega, ?_⟩
      rw [List.length_map]
      have en : ((js.length : Int) - ((lv0.length : Int) - 1)).toNat = js.length - f := by omega
      rw [en]
      refine for_range (lo := (lv0.length : Int) - 1) (n := js.length - f) (fun i σ' H' => ∃ x6 x7 x8 x9 fv, Same H H' ∧ σ' = [some (.ref lt), some (.ref la), some (.ref kn), some sv, some (.int ((lv0.length : Int) - 1)), some (.ref fa), x6, x7, x8, x9] ∧ H' fa = some (.lst fv) ∧ RepL K T H' fv (((leadsS s0 js).take (f + i + 1)).map optS) ∧ (0 < i → ∃ t, (leadsS s0 js)[f + i]? = some (some t)))
        ⟨none, none, none, none, lv0, sm0, rfl, upd_same, hlv.mono sm0, fun h => absurd h (Nat.lt_irrefl 0)⟩ ?_ ?_
      · rintro i σ' H' hi ⟨x6, x7, x8, x9, fv, sm, rfl, hfv, hrep, hpos⟩
        obtain ⟨o, ho, hoo⟩ := hk.at_ i (by omega)
        obtain ⟨vold, hvo1, hvo2⟩ := hkv.get ho
        have hx : f + i < (leadsS s0 js).length := by rw [leads_len]; omega
        have hfl : fv.length = f + i + 1 := by rw [hrep.length, List.length_map, List.length_take]; omega
        have hlt' : SqT K H' lt (js.map lnV) := sqT_same sm hlt
        have hget : (((leadsS s0 js).take (f + i + 1)).map optS)[f + i]? = some (optS (leadsS s0 js)[f + i]) := by
          rw [List.getElem?_map, List.getElem?_take_of_lt (Nat.lt_succ_self _), List.getElem?_eq_getElem hx]
          rfl
        obtain ⟨vf, hvf1, hvf2⟩ := hrep.get hget
        have eat : (lv0.length : Int) - 1 + (i : Int) = ((f + i : Nat) : Int) := by rw [hlen0]; omega
        have hatf : L2.atI fv ((lv0.length : Int) - 1 + (i : Int)) = some vf := by rw [eat]; exact atI_nat hvf1
        have eold : (lv0.length : Int) - 1 + (i : Int) - ((lv0.length : Int) - 1) = (i : Int) := by omega
        refine ⟨_, rfl, _, rfl, _, rfl, _, _, rfl, rfl, kn, kv, _, vold, rfl, rfl, SqL.of (sm _ _ hkn), by rw [eold]; exact atI_nat hvo1, ?_⟩
        refine ⟨_, rfl, _, rfl, fa, fv, _, vf, rfl, rfl, SqL.of hfv, hatf, rfl, _, rfl, ?_⟩
        cases e : (leadsS s0 js)[f + i] with
        | none =>
          rw [e] at hvf2
          cases rep_non hvf2
          refine iteT ?_
          have hn : (leadsS s0 js)[f + i]? = some none := by rw [List.getElem?_eq_getElem hx, e]
          have hi0 : i = 0 := by
            rcases Nat.eq_zero_or_pos i with z | z
            · exact z
            · obtain ⟨t, ht⟩ := hpos z
              rw [hn] at ht
              cases Option.some.inj ht
          refine ⟨i, _, _, x8, x9, fv, by omega, sm, rfl, hfv, hrep, .inl ⟨hn, hk.none_ ?_⟩⟩
          rw [hi0] at hn
          exact hn
        | some t =>
          rw [e] at hvf2
          have hvf2 : Rep K T H' vf (stP t) := hvf2
          have ht : (leadsS s0 js)[f + i]? = some (some t) := by rw [List.getElem?_eq_getElem hx, e]
          have hok : okS (0 + (f + i)) t := leads_ok (f + i) js s0 t 0 s0_ok hj ht
          have hok9 : okS 9 t := okS_mono hok (by omega)
          obtain ⟨af, dxf, fsf, hvfr, hpf⟩ := parts_get W hok9 hvf2
          have hvn : decide (vf = .non) = false := by rw [hvfr]; rfl
          rw [hvn]
          refine iteF ?_
          refine ⟨fun σ2 H2 => Same H' H2 ∧ σ2 = [some (.ref lt), some (.ref la), some (.ref kn), some sv, some (.int ((lv0.length : Int) - 1)), some (.ref fa), some (.int ((lv0.length : Int) - 1 + (i : Int))), some vold, x8, x9], ?_, ?_⟩
          · refine ⟨_, rfl, rfl, _, rfl, ?_⟩
            cases o with
            | none =>
              cases rep_non hvo2
              exact iteF (iteF ⟨Same.refl _, rfl⟩)
            | some told =>
              obtain ⟨hokt, hshort⟩ := hoo told rfl
              have hvo2 : Rep K T H' vold (stP told) := Rep.mono sm hvo2
              obtain ⟨ao, dxo, fso, hvor, hpo⟩ := parts_get W hokt hvo2
              have hon : (!decide (vold = .non)) = true := by rw [hvor]; rfl
              rw [hon]
              refine iteT ?_
              obtain ⟨h1, h2, ds1, d1, h3, h4, h5⟩ := hpf
              refine ⟨_, rfl, _, rfl, fa, fv, _, vf, rfl, rfl, SqL.of hfv, hatf, af, dxf, fsf, hvfr, h1, h2, ds1, d1, h3, h4, fun w1 H1 s1 r1 => ?_⟩
              subst h5
              obtain ⟨g1, g2, ds2, d2, g3, g4, g5⟩ := hpo
              subst g5
              refine ⟨_, rfl, ao, dxo, fso, hvor, s1 _ _ g1, g2, ds2, _, g3.mono s1, g4, fun w2 H2 s2 r2 => ?_⟩
              obtain ⟨f1, f2⟩ := par_flat hok9
              obtain ⟨f3, f4⟩ := par_flat hokt
              refine ⟨_, _, dp_of (r1.mono s2) f1, dp_of r2 f3, pd_shaped f2, pd_shaped f4, _, rfl, ?_⟩
              cases heq : PyData.eqv (pd (parD t)) (pd (parD told)) with
              | false => exact iteF ⟨s1.trans s2, rfl⟩
              | true =>
                refine iteT ?_
                have ett := par_inj hok9 hokt heq
                subst ett
                obtain ⟨k1, k2⟩ := hshort ht
                have s12 : Same H' H2 := s1.trans s2
                have hkl : kv.length = js.length - f + 1 := by rw [hkv.length, hk.len]
                refine ⟨_, rfl, _, rfl, _, rfl, fa, fv, rfl, SqL.of (s12 _ _ hfv), fun p hp => ?_⟩
                have sp := same_new (o := .lst (cutV fv none (some ((lv0.length : Int) - 1 + (i : Int))))) hp
                refine ⟨_, rfl, _, rfl, _, rfl, _, _, rfl, rfl, _, rfl, kn, kv, rfl, SqL.of (sp _ _ (s12 _ _ (sm _ _ hkn))), fun q hq => ?_⟩
                have sq := same_new (o := .lst (cutV kv (some ((lv0.length : Int) - 1 + (i : Int) - ((lv0.length : Int) - 1))) none)) hq
                have c1 : cutV fv none (some ((lv0.length : Int) - 1 + (i : Int))) = fv.take (f + i) := by rw [eat]; exact cut_to (by omega)
                have c2 : cutV kv (some ((lv0.length : Int) - 1 + (i : Int) - ((lv0.length : Int) - 1))) none = kv.drop i := by rw [eold]; exact cut_from (by omega)
                rw [c1, c2] at sq ⊢
                rw [c1] at sp
                refine ⟨p, q, fv.take (f + i), kv.drop i, rfl, rfl, sq _ _ upd_same, upd_same, by rw [List.length_take, List.length_drop, sizeLine_eq]; omega, fun r hr => ?_⟩
                have sr := same_new (o := .lst (fv.take (f + i) ++ kv.drop i)) hr
                refine ⟨_, rfl, _, rfl, _, rfl, _, _, rfl, rfl, by show 3 ≤ sizeLine; decide, fun tp htp => ?_⟩
                have st := same_new (o := .tup [.ref r, sv, .int ((lv0.length : Int) - 1 + (i : Int) - ((lv0.length : Int) - 1))]) htp
                have sall : Same H' _ := s12.trans (sp.trans (sq.trans (sr.trans st)))
                have hr0 : H r = none := by
                  cases e3 : H r with
                  | none => rfl
                  | some o => rw [sq _ _ (sp _ _ (s12 _ _ (sm _ _ e3)))] at hr; cases hr
                refine hQ _ tp r (fv.take (f + i) ++ kv.drop i) sv _ (sm.trans sall) hr0 upd_same (st _ _ upd_same) ?_ ?_
                · have eD : leadsD js = (((leadsS s0 js).take (f + i + 1)).map optS).take (f + i) ++ kd.drop i := by
                    rw [k1, ← List.map_take, List.take_take, Nat.min_eq_left (Nat.le_succ _), ← List.map_append, List.take_append_drop]
                    rfl
                  rw [eD]
                  exact ((hrep.mono sall).take _).append ((hkv.mono (sm.trans sall)).drop _)
                · rw [← k2]
                  exact hsv.mono (sm.trans sall)
          · rintro σ2 H2 ⟨sm2, rfl⟩
            have hin : f + i < js.length := by omega
            obtain ⟨j, hjj⟩ : ∃ j, js[f + i]? = some j := ⟨_, List.getElem?_eq_getElem hin⟩
            have hj0 : j < 27 := hj j (List.mem_of_getElem? hjj)
            obtain ⟨st1, st2⟩ := leads_step ht hjj
            have hatl : L2.atI (js.map lnV) ((lv0.length : Int) - 1 + (i : Int)) = some (lnV j) := by
              rw [eat]
              refine atI_nat ?_
              rw [List.getElem?_map, hjj]
              rfl
            have hlen := (ln_split hj0).2
            refine ⟨_, rfl, _, rfl, fa, fv, _, vf, rfl, rfl, SqL.of (sm2 _ _ hfv), hatf, _, rfl, _, rfl, lt, _, _, _, rfl, rfl, sqT_same sm2 hlt', hatl, _, _, rfl, rfl, by rw [toS_len, sizeLine_eq]; show _ + 1 ≤ _; omega, ?_⟩
            have rs1 : Rep K T H2 (.str (toS (lnT j) ++ "\n")) (.str (ln j)) := by
              rw [← lnNV_eq hj0]
              exact .str _
            refine ⟨[stP t, .str (ln j)], _, .cons (hvf2.mono sm2) (.cons rs1 .nil), behind_line 14 hok9 hj0, fun w1 H3 s3 r3 => ?_⟩
            have sm3 : Same H' H3 := sm2.trans s3
            have hfa3 : H3 fa = some (.lst fv) := sm3 _ _ hfv
            obtain ⟨v8, v9, q, hw, hq, r8, r9⟩ : ∃ v8 v9 q, w1 = .ref q ∧ SqT K H3 q [v8, v9] ∧ Rep K T H3 v8 (match stepS t j with | .inl t' => stP t' | .inr _ => .non) ∧ Rep K T H3 v9 (match stepS t j with | .inl _ => .int (ln j).length | .inr c => .int c) := by
              cases es : stepS t j with
              | inl t' =>
                rw [es] at r3
                obtain ⟨q, vs, hw, hq, hr⟩ := rep_tup r3
                cases hr with
                | cons a b =>
                  cases b with
                  | cons b c =>
                    cases c
                    exact ⟨_, _, q, hw, hq, a, b⟩
              | inr c =>
                rw [es] at r3
                obtain ⟨q, vs, hw, hq, hr⟩ := rep_tup r3
                cases hr with
                | cons a b =>
                  cases b with
                  | cons b c =>
                    cases c
                    exact ⟨_, _, q, hw, hq, a, b⟩
            refine ⟨q, [v8, v9], hw, hq, rfl, _, _, rfl, _, _, rfl, rfl, ?_⟩
            refine ⟨_, rfl, .inl ⟨rfl, _, SqL.of hfa3⟩, _, rfl, fa, fv, v8, rfl, rfl, hfa3, by rw [hfl, sizeLine_eq]; omega, ?_⟩
            have hL1 : (leadsS s0 js)[f + i + 1]? = some (match stepS t j with | .inl t' => some t' | .inr _ => none) := st1
            have hx1 : f + i + 1 < (leadsS s0 js).length := by rw [leads_len]; omega
            have rep8 : Rep K T H3 v8 (optS (leadsS s0 js)[f + i + 1]) := by
              rw [List.getElem?_eq_getElem hx1] at hL1
              rw [Option.some.inj hL1]
              cases es : stepS t j with
              | inl t' => rw [es] at r8; exact r8
              | inr c => rw [es] at r8; exact r8
            have hrep4 : RepL K T (upd H3 fa (.lst (fv ++ [v8]))) (fv ++ [v8]) (((leadsS s0 js).take (f + i + 1 + 1)).map optS) := by
              have e5 : (leadsS s0 js).take (f + i + 1 + 1) = (leadsS s0 js).take (f + i + 1) ++ [(leadsS s0 js)[f + i + 1]] := by
                rw [List.take_add_one, List.getElem?_eq_getElem hx1]
                rfl
              rw [e5, List.map_append]
              exact (RepL.setL hfa3 (hrep.mono sm3) (noLs_opt _)).append (.cons (Rep.setL hfa3 rep8 (noL_opt _)) .nil)
            have smH4 : Same H (upd H3 fa (.lst (fv ++ [v8]))) := fun b o e => by
              rw [upd_ne (ne_of_none e hfa)]
              exact sm3 _ _ (sm _ _ e)
            cases es : stepS t j with
            | inl t' =>
              rw [es] at r8 hL1
              have ht' : okS 10 t' := okS_mono (stepS_ok hok9 hj0 es) (by omega)
              have h8n : decide (v8 = .non) = false := by
                obtain ⟨lv', g0, gr, fr, ph, tk, eS, _, _⟩ := stP_shape ht'
                have r8 : Rep K T H3 v8 (stP t') := r8
                rw [eS] at r8
                obtain ⟨a, dx, fs, rfl, _⟩ := rep_ins r8
                rfl
              refine ⟨_, rfl, rfl, _, rfl, ?_⟩
              rw [h8n]
              exact iteF ⟨_, _, _, _, fv ++ [v8], smH4, rfl, upd_same, hrep4, fun _ => ⟨t', hL1⟩⟩
            | inr c =>
              rw [es] at r8 r9 hL1
              cases rep_non r8
              cases rep_int r9
              refine ⟨_, rfl, rfl, _, rfl, iteT ?_⟩
              have hrun : runS s0 js = .inr (f + i, c) := st2 c es
              have hlt4 : SqT K (upd H3 fa (.lst (fv ++ [.non]))) lt (js.map lnV) := by
                have h0 := sqT_same (sm2.trans s3) hlt'
                rcases h0 with h0 | h0
                · rcases h0 with h0 | ⟨od, h0⟩
                  · exact .inl (.inl (by rw [upd_ne (ne_of h0 hfa3 (by intro z; cases z))]; exact h0))
                  · exact .inl (.inr ⟨od, by rw [upd_ne (ne_of h0 hfa3 (by intro z; cases z))]; exact h0⟩)
                · exact .inr h0
              refine ⟨_, rfl, by decide, fun p hp => ?_⟩
              have sp := same_new (o := .lst [.non]) hp
              refine ⟨_, rfl, lt, _, rfl, .inr (sqT_same sp hlt4), _, rfl, _, _, rfl, rfl, _, _, rfl, rfl, ?_⟩
              have ek : (((js.map lnV).length : Int) - ((lv0.length : Int) - 1 + (i : Int)) - 1).toNat = js.length - (f + i + 1) := by rw [List.length_map, hlen0]; omega
              refine ⟨p, _, [.non], rfl, rfl, upd_same, by rw [List.length_map, hlen0]; omega, by rw [List.length_map, hlen0]; omega, by rw [ek, sizeLine_eq]; show 1 * _ ≤ _; omega, fun q2 hq2 => ?_⟩
              have sq := same_new (o := .lst (List.replicate (((js.map lnV).length : Int) - ((lv0.length : Int) - 1 + (i : Int)) - 1).toNat [V.non]).flatten) hq2
              rw [ek, flat_rep] at sq ⊢
              refine ⟨fa, q2, fv ++ [.non], _, rfl, rfl, sq _ _ (sp _ _ upd_same), upd_same, by rw [List.length_replicate, List.length_append, hfl, sizeLine_eq]; show _ + 1 + _ ≤ _; omega, fun r hr => ?_⟩
              have sr := same_new (o := .lst (fv ++ [.non] ++ List.replicate (js.length - (f + i + 1)) V.non)) hr
              refine ⟨_, rfl, _, rfl, by show 2 ≤ sizeLine; decide, fun u hu => ?_⟩
              have su := same_new (o := .tup [.int ((lv0.length : Int) - 1 + (i : Int)), .int (c : Int)]) hu
              refine ⟨_, rfl, _, rfl, _, _, rfl, rfl, _, _, rfl, rfl, by show 3 ≤ sizeLine; decide, fun tp htp => ?_⟩
              have st := same_new (o := .tup [.ref r, .ref u, .int ((lv0.length : Int) - 1 + (i : Int) - ((lv0.length : Int) - 1) + 1)]) htp
              have sall : Same (upd H3 fa (.lst (fv ++ [.non]))) _ := sp.trans (sq.trans (sr.trans (su.trans st)))
              have hr0 : H r = none := by
                cases e3 : H r with
                | none => rfl
                | some o => rw [sq _ _ (sp _ _ (smH4 _ _ e3))] at hr; cases hr
              refine hQ _ tp r (fv ++ [.non] ++ List.replicate (js.length - (f + i + 1)) V.non) (.ref u) _ (smH4.trans sall) hr0 upd_same (st _ _ (su _ _ upd_same)) ?_ ?_
              · rw [leads_fill (by omega) hL1]
                exact (hrep4.mono sall).append (rep_nons _)
              · rw [hrun]
                refine .tup (SqT.of (st _ _ upd_same)) (.cons ?_ (.cons (.int _) .nil))
                rw [eat]
                exact .int _
      · rintro σ' H' ⟨x6, x7, x8, x9, fv, sm, rfl, hfv, hrep, hpos⟩
        refine ⟨js.length - f, x6, x7, x8, x9, fv, Nat.le_refl _, sm, rfl, hfv, hrep, ?_⟩
        have hx : f + (js.length - f) < (leadsS s0 js).length := by rw [leads_len]; omega
        cases e : (leadsS s0 js)[f + (js.length - f)] with
        | some t => exact .inr ⟨rfl, t, by rw [List.getElem?_eq_getElem hx, e]⟩
        | none =>
          rcases Nat.eq_zero_or_pos (js.length - f) with z | z
          · have e2 : (leadsS s0 js)[f]? = some none := by
              rw [← e, ← List.getElem?_eq_getElem hx, z, Nat.add_zero]
            exact .inl ⟨by rw [List.getElem?_eq_getElem hx, e], hk.none_ e2⟩
          · obtain ⟨t, ht⟩ := hpos z
            rw [List.getElem?_eq_getElem hx, e] at ht
            cases Option.some.inj ht
    · rintro σ' H' ⟨i, x6, x7, x8, x9, fv, hi, sm, rfl, hfv, hrep, hend⟩
      have hx : f + i < (leadsS s0 js).length := by rw [leads_len]; omega
      have hfl : fv.length = f + i + 1 := by rw [hrep.length, List.length_map, List.length_take]; omega
      have hlt' : SqT K H' lt (js.map lnV) := sqT_same sm hlt
      have hlast : L2.atI (((leadsS s0 js).take (f + i + 1)).map optS) (-1) = some (optS (leadsS s0 js)[f + i]) := by
        refine atI_m1 (n := f + i) (by rw [List.length_map, List.length_take]; omega) ?_
        rw [List.getElem?_map, List.getElem?_take_of_lt (Nat.lt_succ_self _), List.getElem?_eq_getElem hx]
        rfl
      obtain ⟨v, hv1, hv2⟩ := hrep.atI hlast
      refine ⟨_, rfl, 1, rfl, fa, fv, -1, v, rfl, rfl, SqL.of hfv, hv1, rfl, _, rfl, ?_⟩
      rcases hend with ⟨hn, hsd⟩ | ⟨hi2, t, ht⟩
      · have e : (leadsS s0 js)[f + i] = none := by
          rw [List.getElem?_eq_getElem hx] at hn
          exact Option.some.inj hn
        rw [e] at hv2
        cases rep_non hv2
        refine iteT ?_
        refine ⟨_, rfl, by decide, fun q hq => ?_⟩
        have sq := same_new (o := .lst [.non]) hq
        refine ⟨_, rfl, lt, _, rfl, .inr (sqT_same sq hlt'), _, _, rfl, rfl, _, rfl, fa, fv, rfl, .inl (SqL.of (sq _ _ hfv)), _, _, rfl, rfl, ?_⟩
        have ek : (((js.map lnV).length : Int) + 1 - (fv.length : Int)).toNat = js.length - (f + i) := by rw [List.length_map, hfl]; omega
        refine ⟨q, _, [.non], rfl, rfl, upd_same, by rw [List.length_map, hfl]; omega, by rw [List.length_map, hfl]; omega, by rw [ek, sizeLine_eq]; show 1 * _ ≤ _; omega, fun p hp => ?_⟩
        have sp := same_new (o := .lst (List.replicate (((js.map lnV).length : Int) + 1 - (fv.length : Int)).toNat [V.non]).flatten) hp
        rw [ek, flat_rep] at sp ⊢
        refine ⟨fa, p, fv, _, rfl, rfl, sp _ _ (sq _ _ hfv), upd_same, by rw [List.length_replicate, hfl, sizeLine_eq]; omega, fun r hr => ?_⟩
        have sr := same_new (o := .lst (fv ++ List.replicate (js.length - (f + i)) V.non)) hr
        refine ⟨_, rfl, by show 3 ≤ sizeLine; decide, fun tp htp => ?_⟩
        have st := same_new (o := .tup [.ref r, sv, .int 0]) htp
        have sall : Same H' _ := sq.trans (sp.trans (sr.trans st))
        have hr0 : H r = none := by
          cases e3 : H r with
          | none => rfl
          | some o => rw [sp _ _ (sq _ _ (sm _ _ e3))] at hr; cases hr
        refine hQ _ tp r (fv ++ List.replicate (js.length - (f + i)) V.non) sv 0 (sm.trans sall) hr0 upd_same (st _ _ upd_same) ?_ ?_
        · rw [leads_fill (by omega) hn]
          exact (hrep.mono sall).append (rep_nons _)
        · rw [← hsd]
          exact hsv.mono (sm.trans sall)
      · have e : (leadsS s0 js)[f + i] = some t := by
          rw [List.getElem?_eq_getElem hx] at ht
          exact Option.some.inj ht
        have hfi : f + i = js.length := by omega
        rw [e] at hv2
        have hok : okS (0 + (f + i)) t := leads_ok (f + i) js s0 t 0 s0_ok hj ht
        obtain ⟨lv', g0, gr, fr, ph, tk, eS, _, _⟩ := stP_shape hok
        have hv2 : Rep K T H' v (stP t) := hv2
        have hvn : decide (v = .non) = false := by
          rw [eS] at hv2
          obtain ⟨a, dx, fs, rfl, _⟩ := rep_ins hv2
          rfl
        rw [hvn]
        refine iteF ?_
        have hrun : runS s0 js = .inl t := by
          have hl := leads_last js s0
          rw [← hfi, ht] at hl
          have hl := Option.some.inj hl
          cases er : runS s0 js with
          | inl t' => rw [er] at hl; rw [Option.some.inj hl]
          | inr p => rw [er] at hl; cases hl
        refine ⟨_, rfl, _, rfl, lt, _, rfl, .inr hlt', _, rfl, _, _, rfl, rfl, by show 3 ≤ sizeLine; decide, fun tp htp => ?_⟩
        have st := same_new (o := .tup [.ref fa, .non, .int (((js.map lnV).length : Int) - ((lv0.length : Int) - 1))]) htp
        refine hQ _ tp fa fv .non _ (sm.trans st) hfa upd_same (st _ _ hfv) ?_ ?_
        · have eD : leadsD js = ((leadsS s0 js).take (f + i + 1)).map optS := by
            rw [List.take_of_length_le (by rw [leads_len]; omega)]
            rfl
          rw [eD]
          exact hrep.mono st
        · rw [hrun]
          exact .non
end
end Rp
namespace Rp
open PySem PySem.Spec PyProof.Rows L2
theorem runS_app : ∀ (a b : List Nat) (s : LS), runS s (a ++ b) = match runS s a with
    | .inl t => shiftR a.length (runS t b)
    | .inr p => .inr p
  | [], b, s => (shift_zero _).symm
  | j :: a, b, s => by
    show runS s (j :: (a ++ b)) = _
    cases es : stepS s j with
    | inr c => rw [runS_inr es, runS_inr es]
    | inl s' =>
      rw [runS_shift es, runS_shift es, runS_app a b s']
      cases runS s' a with
      | inl t =>
        show shiftR 1 (shiftR a.length (runS t b)) = shiftR (a.length + 1) (runS t b)
        rw [shift_add, Nat.add_comm]
      | inr p => rfl
/-- the spot told in the new numbers -/
def moved (f g k : Nat) : Sum LS (Nat × Nat) → Sum LS (Nat × Nat)
  | .inl t => .inl t
  | .inr p => if f + g ≤ p.1 then .inr (p.1 + k - g, p.2) else .inr p
def exch (js : List Nat) (f g : Nat) (ks : List Nat) : List Nat := js.take f ++ (ks ++ js.drop (f + g))
theorem exch_len {js ks : List Nat} {f g : Nat} (h : f + g ≤ js.length) : (exch js f g ks).length = f + ks.length + (js.length - (f + g)) := by
  unfold exch
  rw [List.length_append, List.length_append, List.length_take, List.length_drop]
  omega
theorem exch_take {js ks : List Nat} {f g : Nat} (h : f ≤ js.length) : (exch js f g ks).take f = js.take f := by
  unfold exch
  rw [List.take_append_of_le_length (by rw [List.length_take]; omega), List.take_take, Nat.min_self]
theorem exch_drop {js ks : List Nat} {f g q : Nat} (h : f ≤ js.length) : (exch js f g ks).drop (f + (ks.length + q)) = js.drop (f + g + q) := by
  unfold exch
  have hl : (js.take f).length = f := by rw [List.length_take]; omega
  rw [List.drop_append, List.drop_of_length_le (by omega), List.nil_append, hl, Nat.add_sub_cancel_left, List.drop_append, List.drop_of_length_le (by omega), List.nil_append, Nat.add_sub_cancel_left, List.drop_drop]
theorem leads_pre {js : List Nat} {f : Nat} (hf : f ≤ js.length) (h : (leadsS s0 js)[f]? = some none) : ∃ p, runS s0 (js.take f) = .inr p ∧ runS s0 js = .inr p ∧ p.1 < f := by
  have h1 : (leadsS s0 (js.take f))[(js.take f).length]? = some none := by
    rw [← leads_take, List.length_take, Nat.min_eq_left hf, List.getElem?_take_of_lt (Nat.lt_succ_self _), h]
  rw [leads_last] at h1
  cases er : runS s0 (js.take f) with
  | inl t => rw [er] at h1; cases Option.some.inj h1
  | inr p =>
    have e : runS s0 js = .inr p := by
      conv => lhs; rw [← List.take_append_drop f js]
      rw [runS_app, er]
    obtain ⟨⟨p', e1, e2⟩, _⟩ := leads_none f js s0 h
    rw [e] at e1
    cases e1
    exact ⟨p, rfl, e, e2⟩
theorem knows_ok {js ks : List Nat} {f g : Nat} (hj : Lines js) (hl : js.length ≤ 10) (hfg : f + g ≤ js.length) :
    Knows (exch js f g ks) f (List.replicate ks.length .non ++ (leadsD js).drop (f + g)) (spotD (moved f g ks.length (runS s0 js))) := by
  have hln := exch_len (ks := ks) hfg
  refine ⟨?_, fun i hi => ?_, fun h => ?_⟩
  · rw [List.length_append, List.length_replicate, List.length_drop, hln]
    unfold leadsD
    rw [List.length_map, leads_len]
    omega
  · rcases Nat.lt_or_ge i ks.length with hik | hik
    · refine ⟨none, ?_, fun t z => by cases z⟩
      rw [List.getElem?_append_left (by rw [List.length_replicate]; exact hik), List.getElem?_replicate, if_pos hik]
      rfl
    · obtain ⟨q, rfl⟩ : ∃ q, i = ks.length + q := ⟨i - ks.length, by omega⟩
      have hq : f + g + q < (leadsS s0 js).length := by rw [leads_len]; rw [hln] at hi; omega
      refine ⟨(leadsS s0 js)[f + g + q], ?_, fun t ht => ?_⟩
      · rw [List.getElem?_append_right (by rw [List.length_replicate]; exact hik), List.length_replicate, Nat.add_sub_cancel_left, List.getElem?_drop]
        unfold leadsD
        rw [List.getElem?_map, List.getElem?_eq_getElem hq]
        rfl
      · have ht0 : (leadsS s0 js)[f + g + q]? = some (some t) := by rw [List.getElem?_eq_getElem hq, ht]
        obtain ⟨d1, d2⟩ := leads_drop _ js s0 t ht0
        refine ⟨okS_mono (leads_ok _ js s0 t 0 s0_ok hj ht0) (by rw [leads_len] at hq; omega), fun h2 => ?_⟩
        obtain ⟨d3, d4⟩ := leads_drop _ (exch js f g ks) s0 t h2
        rw [exch_drop (by omega)] at d3 d4
        refine ⟨?_, ?_⟩
        · rw [List.drop_append, List.drop_of_length_le (by rw [List.length_replicate]; omega), List.nil_append, List.length_replicate, Nat.add_sub_cancel_left, List.drop_drop, d3, ← d1]
          unfold leadsD
          rw [List.map_drop]
        · rw [d2, d4]
          cases runS t (js.drop (f + g + q)) with
          | inl t' => rfl
          | inr p =>
            show spotD (if f + g ≤ p.1 + (f + g + q) then .inr (p.1 + (f + g + q) + ks.length - g, p.2) else _) = spotD (.inr (p.1 + (f + (ks.length + q)), p.2))
            rw [if_pos (by omega)]
            have : p.1 + (f + g + q) + ks.length - g = p.1 + (f + (ks.length + q)) := by omega
            rw [this]
  · obtain ⟨p, e1, e2, e3⟩ := leads_pre (by rw [hln]; omega) h
    rw [exch_take (by omega)] at e1
    have e4 : runS s0 js = .inr p := by
      conv => lhs; rw [← List.take_append_drop f js]
      rw [runS_app, e1]
    rw [e2, e4]
    show spotD (if f + g ≤ p.1 then _ else .inr p) = _
    rw [if_neg (by omega)]
section
variable {P : Program} {w : World} {K : PySem.W.Frag} {mg : Str → Option Value} {base : Heap} {T : Cl}
theorem catA_ok {H : Hp} {a b : Addr} {xs ys : List V} {Q : VK} (ha : SqT K H a xs) (hb : SqT K H b ys) (hz : xs.length + ys.length ≤ sizeLine) (h : ∀ p H', Same H H' → SqT K H' p (xs ++ ys) → Q (.ref p) H') : rCatA K (.ref a) (.ref b) H Q := by
  refine ⟨a, b, xs, ys, rfl, rfl, ha, hb, hz, fun e => ?_, fun _ e => ?_, fun _ _ p hp => ?_⟩
  · subst e
    exact h b H (Same.refl H) hb
  · subst e
    refine h a H (Same.refl H) ?_
    rw [List.append_nil]
    exact ha
  · exact h p _ (same_new hp) (SqT.of upd_same)
theorem slA_ok {H : Hp} {a : Addr} {xs : List V} {lo hi : Option Int} {Q : VK} (ha : SqT K H a xs) (h : ∀ p H', Same H H' → SqT K H' p (cutV xs lo hi) → Q (.ref p) H') : rSlA K (.ref a) lo hi H Q := by
  refine ⟨a, xs, rfl, ha, fun e => ?_, fun _ p hp => ?_⟩
  · refine h a H (Same.refl H) ?_
    have : cutV xs lo hi = xs := by
      unfold cutV
      rw [e.1, e.2, List.drop_zero, Nat.sub_zero, List.take_length]
    rw [this]
    exact ha
  · exact h p _ (same_new hp) (SqT.of upd_same)
theorem noLD_nP : (nP.all noLD) = true := by kernel_rfl
theorem noLD_nth : ∀ (l : List D) (i : Nat), l.all noLD = true → noLD (nth .non l i) = true
  | [], _, _ => rfl
  | a :: _, 0, h => (Bool.and_eq_true_iff.mp (show (noLD a && _) = true from h)).1
  | a :: r, i + 1, h => noLD_nth r i (Bool.and_eq_true_iff.mp (show (noLD a && r.all noLD) = true from h)).2
theorem noLD_app : ∀ {as bs : List D}, noLDs as = true → noLDs bs = true → noLDs (as ++ bs) = true
  | [], _, _, h => h
  | a :: as, bs, h, h2 => by
    obtain ⟨h3, h4⟩ := Bool.and_eq_true_iff.mp (show (noLD a && noLDs as) = true from h)
    show (noLD a && noLDs (as ++ bs)) = true
    rw [h3, noLD_app h4 h2]
    rfl
theorem noLD_frs : ∀ (bot : Bool) (ks : List Bool), noLDs (frsP bot ks) = true
  | _, [] => rfl
  | bot, k :: r => by
    show (true && noLDs (frsP false r)) = true
    rw [noLD_frs false r]
    rfl
theorem noLD_opt (o : Option LS) : noLD (optS o) = true := by
  cases o with
  | none => rfl
  | some t =>
    cases t with
    | n i => exact noLD_nth nP i noLD_nP
    | b ks t =>
      have hf : noLDs (frsP true ks ++ [frP1 ks.isEmpty (kOf t)]) = true := noLD_app (noLD_frs true ks) rfl
      have e1 : noLD (stP (.b ks t)) = (noLD lvB && (noLD goB && (noLDs (frsP true ks ++ [frP1 ks.isEmpty (kOf t)]) && (noLD (phB t).1 && (noLD (phB t).2 && true))))) := rfl
      show noLD (stP (.b ks t)) = true
      rw [e1, hf]
      unfold phB
      split <;> kernel_rfl
theorem noLDs_opt : ∀ l : List (Option LS), noLDs (l.map optS) = true
  | [] => rfl
  | o :: r => by
    show (noLD (optS o) && noLDs (r.map optS)) = true
    rw [noLD_opt, noLDs_opt r]
    rfl
def spExch (K : PySem.W.Frag) (T : Cl) : Sp := fun vs H Q _ => ∃ b f g fr ll js ks, vs = [.ref b, .int (f : Nat), .int (g : Nat), .ref fr] ∧ BufS K T H b ll js ∧ f + g ≤ js.length ∧ SqT K H fr (ks.map lnV) ∧ Lines ks ∧ (exch js f g ks).length ≤ 10 ∧
  ∀ H' ll', Kp [b] H H' → H ll' = none → BufS K T H' b ll' (exch js f g ks) → Q (.str (toS (verdR (runS s0 (exch js f g ks))))) H'
theorem prop_of (W : HW P w K mg base T) {c f : Str} (h : (c, f) ∈ prps) : ∃ pa, PropOf K (cAd K c) f pa (gAd K (c, some f)) := W.prop _ h
theorem meth_of (W : HW P w K mg base T) {c f : Str} (h : (c, f) ∈ mths) : Meth K (cAd K c) f (He.fAd K (c, some f)) := W.meth _ h
theorem ok_exchanged (W : HW P w K mg base T) : FnR P w K mg base CX0 34 (He.fAd K ("Buffer", some "exchanged")) (spExch K T) := by
  obtain ⟨pv_, hpv⟩ := prop_of W (c := "Buffer") (f := "verdict") (by decide)
  obtain ⟨fdv, Fv, Bv⟩ := ok_b_verdict W
  have nd := hc_b_exchanged.nd
  refine hand_R (hand_fn (d := e_b_exchanged) (W.hd _ (List.mem_of_getElem? (i := 12) rfl)) rfl rfl hc_b_exchanged (fun vs H Q E h => ?_) (fun _ _ _ _ _ _ us hl => match us, hl with | [_, _, _, _], _ => by kernel_rfl)
    fun cdv A outer s H vs Q E hr h => ⟨_, PSs.nox (
      pss_cons (ps_asg (pe_fld (pv 0) rfl) (pg_tup rfl (pgs_cons (pg_name (i := 4) nd rfl (Or.inl rfl)) (pgs_cons (pg_name (i := 5) nd rfl (Or.inl rfl)) (pgs_cons (pg_name (i := 6) nd rfl (Or.inl rfl)) (pgs_cons (pg_name (i := 7) nd rfl (Or.inl rfl)) (pgs_cons (pg_name (i := 8) nd rfl (Or.inl rfl)) pgs_nil)))))))
      (pss_cons (ps_set (i := 9) nd rfl (Or.inl rfl) (pe_op op_catA (pe_op op_catA (pe_slice sl_tupA (pv 4) po_none (po_some (pv 1))) (pv 3)) (pe_slice sl_tupA (pv 4) (po_some (pe_op op_add (pv 1) (pv 2))) po_none)))
      (pss_cut (ps_if (PW.pt (pw_and (pt_cmpR op_notN (pv 6) pe_non (nomark _)) (pw_and1 (pt_cmpR op_ge (pe_ix ix_tup (pv 6) pe_int (fun _ _ => rfl)) (pe_op op_add (pv 1) (pv 2)) (nomark _)))))
        (pss_one (ps_set (i := 6) nd rfl (Or.inl rfl) (pe_tup (pa_cons (pe_op op_sub (pe_op op_add (pe_ix ix_tup (pv 6) pe_int (fun _ _ => rfl)) (pe_callB call_len_seq (by rfl) (W.free _ (by decide)) PySem.boot_len (pa_cons (pv 3) pa_nil))) (pv 2)) (pa_cons (pe_ix ix_tup (pv 6) pe_int (fun _ _ => rfl)) pa_nil))))) pss_nil)
      (pss_cons (ps_set (i := 10) nd rfl (Or.inl rfl) (pe_op op_cat (pe_op op_rep (pe_lst (pa_cons pe_non pa_nil)) (pe_callB call_len_seq (by rfl) (W.free _ (by decide)) PySem.boot_len (pa_cons (pv 3) pa_nil))) (pe_slice sl_list (pv 5) (po_some (pe_op op_add (pv 1) (pv 2))) po_none)))
      (pss_cons (ps_asg (pe_callR (E := E0) (ok_reread W) hr rfl (W.glo _ (by decide)) (W.hd e_reread (List.mem_of_getElem? (i := 2) rfl)).choose_spec.kp pass0 (pa_cons (pv 9) (pa_cons (pe_slice sl_list (pv 5) po_none (po_some (pe_op op_add (pv 1) pe_int))) (pa_cons (pv 10) (pa_cons (pv 6) pa_nil)))) rfl rfl)
        (pg_tup rfl (pgs_cons (pg_name (i := 5) nd rfl (Or.inl rfl)) (pgs_cons (pg_name (i := 6) nd rfl (Or.inl rfl)) (pgs_cons (pg_name (i := 7) nd rfl (Or.inl rfl)) pgs_nil)))))
      (pss_cons (ps_fld (pv 0) (pe_tup (pa_cons (pv 9) (pa_cons (pv 5) (pa_cons (pv 6) (pa_cons (pv 7) (pa_cons (pe_op op_add (pv 8) (pv 7)) pa_nil)))))) rfl)
      (pss_one (ps_ret (pe_prop (CX := CX0) (E := E0) (pv 0) (W.cl (c := "Buffer") (by decide)) hpv Fv (hr.mono (by decide)) Bv .nil pass0 rfl))))))))), ?_⟩)
  · obtain ⟨b, f, g, fr, ll, js, ks, rfl, _⟩ := h
    rfl
  · obtain ⟨b, f, g, fr, ll, js, ks, rfl, hB, hfg, hfr, hks, hl', hQ⟩ := h
    obtain ⟨dx, tp, lt, sv, wk, tot, lv, h1, h2, h3, h4, h5, h6⟩ := hB.ex
    have hbl := hB.len
    have hbj := hB.ok
    have hkl : ks.length ≤ 10 := by rw [exch_len hfg] at hl'; omega
    have hj' : Lines (exch js f g ks) := fun j hjm => by
      unfold exch at hjm
      rcases List.mem_append.mp hjm with z | z
      · exact hbj j (List.mem_of_mem_take z)
      · rcases List.mem_append.mp z with z | z
        · exact hks j z
        · exact hbj j (List.mem_of_mem_drop z)
    refine ⟨_, rfl, b, _, dx, _, _, rfl, h1, W.cl (by decide), W.na (by decide), rfl, tp, _, rfl, h2, rfl, ?_⟩
    refine ⟨_, _, rfl, _, _, rfl, _, _, rfl, _, _, rfl, _, _, rfl, rfl, ?_⟩
    have efg : (f : Int) + (g : Int) = ((f + g : Nat) : Int) := by omega
    have c1 : cutV (js.map lnV) none (some (f : Int)) = (js.take f).map lnV := by rw [cut_to (by rw [List.length_map]; omega), List.map_take]
    have c2 : cutV (js.map lnV) (some ((f : Int) + (g : Int))) none = (js.drop (f + g)).map lnV := by rw [efg, cut_from (by rw [List.length_map]; omega), List.map_drop]
    refine ⟨_, rfl, _, rfl, _, rfl, slA_ok h3 fun p1 H1 s1 q1 => ?_⟩
    rw [c1] at q1
    refine ⟨_, rfl, catA_ok q1 (sqT_same s1 hfr) (by rw [List.length_map, List.length_map, List.length_take, sizeLine_eq]; omega) fun p2 H2 s2 q2 => ?_⟩
    refine ⟨_, rfl, _, rfl, _, rfl, _, _, rfl, rfl, _, rfl, ?_⟩
    unfold tNoPart
    refine slA_ok (sqT_same (s1.trans s2) h3) fun p3 H3 s3 q3 => ?_
    rw [c2] at q3
    refine catA_ok (sqT_same s3 q2) q3 (by rw [List.length_append, List.length_map, List.length_map, List.length_map, List.length_take, List.length_drop, sizeLine_eq]; omega) fun p4 H4 s4 q4 => ?_
    have sm4 : Same H H4 := s1.trans (s2.trans (s3.trans s4))
    have q5 : SqT K H4 p4 ((exch js f g ks).map lnV) := by
      unfold exch
      rw [List.map_append, List.map_append, ← List.append_assoc]
      exact q4
    refine ⟨fun σ' H' => ∃ sv', Same H4 H' ∧ σ' = [some (.ref b), some (.int (f : Nat)), some (.int (g : Nat)), some (.ref fr), some (.ref lt), some (.ref ll), some sv', some (.int wk), some (.int tot), some (.ref p4), none] ∧ Rep K T H' sv' (spotD (moved f g ks.length (runS s0 js))), ?_, ?_⟩
    · refine ⟨_, rfl, rfl, _, rfl, ?_⟩
      cases er : runS s0 js with
      | inl t =>
        rw [er] at h6
        cases rep_non h6
        exact iteF (iteF ⟨_, Same.refl _, rfl, .non⟩)
      | inr p =>
        rw [er] at h6
        obtain ⟨qs, vs', rfl, hqs, hvs⟩ := rep_tup h6
        cases hvs with
        | cons ra rb =>
          cases rb with
          | cons rb rc =>
            cases rc
            cases rep_int ra
            cases rep_int rb
            refine iteT ?_
            have hqs4 := sqT_same sm4 hqs
            refine ⟨_, rfl, qs, _, _, _, rfl, rfl, hqs4, atI_nat (j := 0) rfl, _, rfl, _, rfl, _, _, rfl, rfl, _, _, rfl, rfl, _, rfl, ?_⟩
            by_cases hge : f + g ≤ p.1
            · rw [decide_eq_true (show ((f : Int) + (g : Int)) ≤ (p.1 : Int) by omega)]
              refine iteT ?_
              refine ⟨_, rfl, qs, _, _, _, rfl, rfl, hqs4, atI_nat (j := 0) rfl, _, rfl, fr, _, rfl, .inr (sqT_same sm4 hfr), _, _, rfl, rfl, _, rfl, _, _, rfl, rfl, _, rfl, qs, _, _, _, rfl, rfl, hqs4, atI_nat (j := 1) rfl, by show 2 ≤ sizeLine; decide, fun u hu => ?_⟩
              have su := same_new (o := .tup [.int ((p.1 : Int) + ((ks.map lnV).length : Int) - (g : Int)), .int (p.2 : Int)]) hu
              refine ⟨_, su, rfl, ?_⟩
              show Rep K T _ _ (spotD (if f + g ≤ p.1 then .inr (p.1 + ks.length - g, p.2) else .inr p))
              rw [if_pos hge]
              refine .tup (SqT.of upd_same) (.cons ?_ (.cons (.int _) .nil))
              have : (p.1 : Int) + ((ks.map lnV).length : Int) - (g : Int) = ((p.1 + ks.length - g : Nat) : Int) := by rw [List.length_map]; omega
              show Rep K T _ (.int ((p.1 : Int) + ((ks.map lnV).length : Int) - (g : Int))) (.int ((p.1 + ks.length - g : Nat) : Int))
              rw [this]
              exact .int _
            · rw [decide_eq_false (show ¬ ((f : Int) + (g : Int)) ≤ (p.1 : Int) by omega)]
              refine iteF ⟨_, Same.refl _, rfl, ?_⟩
              show Rep K T _ _ (spotD (if f + g ≤ p.1 then .inr (p.1 + ks.length - g, p.2) else .inr p))
              rw [if_neg hge]
              exact .tup hqs4 (.cons (.int _) (.cons (.int _) .nil))
    · rintro σ' H' ⟨sv', sm5, rfl, hsv'⟩
      have sm6 : Same H H' := sm4.trans sm5
      refine ⟨by decide, fun q hq => ?_⟩
      have sq := same_new (o := .lst [.non]) hq
      refine ⟨_, rfl, fr, _, rfl, .inr (sqT_same (sm6.trans sq) hfr), ?_⟩
      have ek : (((ks.map lnV).length : Int)).toNat = ks.length := by rw [List.length_map]; omega
      refine ⟨q, _, [.non], rfl, rfl, upd_same, by rw [List.length_map]; omega, by rw [List.length_map]; omega, by rw [ek, sizeLine_eq]; show 1 * _ ≤ _; omega, fun p hp => ?_⟩
      have sp := same_new (o := .lst (List.replicate (((ks.map lnV).length : Int)).toNat [V.non]).flatten) hp
      rw [ek, flat_rep] at sp ⊢
      refine ⟨_, rfl, _, rfl, _, rfl, _, _, rfl, rfl, _, rfl, ?_⟩
      have hll1 := sp _ _ (sq _ _ (sm6 _ _ h4))
      refine ⟨ll, lv, rfl, SqL.of hll1, fun u hu => ?_⟩
      have su := same_new (o := .lst (cutV lv (some ((f : Int) + (g : Int))) none)) hu
      have hlvl : lv.length = js.length + 1 := by
        rw [h5.length]
        unfold leadsD
        rw [List.length_map, leads_len]
      have c3 : cutV lv (some ((f : Int) + (g : Int))) none = lv.drop (f + g) := by rw [efg]; exact cut_from (by omega)
      rw [c3] at su ⊢
      refine ⟨p, u, _, _, rfl, rfl, su _ _ upd_same, upd_same, by rw [List.length_replicate, List.length_drop, sizeLine_eq]; omega, fun kn hkn => ?_⟩
      have sk := same_new (o := .lst (List.replicate ks.length V.non ++ lv.drop (f + g))) hkn
      have sm7 : Same H _ := sm6.trans (sq.trans (sp.trans (su.trans sk)))
      have sm57 : Same H' _ := sq.trans (sp.trans (su.trans sk))
      refine ⟨_, rfl, _, rfl, _, rfl, _, _, rfl, rfl, _, rfl, ll, lv, rfl, SqL.of (sm7 _ _ h4), fun la hla => ?_⟩
      have c4 : cutV lv none (some ((f : Int) + 1)) = lv.take (f + 1) := by
        have : (f : Int) + 1 = ((f + 1 : Nat) : Int) := by omega
        rw [this]
        exact cut_to (by omega)
      have sa := same_new (o := .lst (cutV lv none (some ((f : Int) + 1)))) hla
      rw [c4] at sa ⊢
      have sm8 : Same H _ := sm7.trans sa
      refine ⟨_, rfl, _, rfl, ?_⟩
      have hrepP : ∀ H0, Same H H0 → RepL K T H0 (lv.take (f + 1)) (((leadsS s0 (exch js f g ks)).take (f + 1)).map optS) := fun H0 s0' => by
        rw [leads_take, exch_take (by omega), ← leads_take, List.map_take]
        exact (h5.mono s0').take (f + 1)
      refine ⟨p4, la, kn, sv', exch js f g ks, f, lv.take (f + 1), _, _, _, rfl, hj', hl', by rw [exch_len hfg]; omega, sqT_same (sm5.trans (sm57.trans sa)) q5, upd_same, hrepP _ sm8, sa _ _ upd_same, (rep_nons ks.length).append ((h5.mono sm8).drop (f + g)), hsv'.mono (sm57.trans sa), knows_ok hbj hbl hfg, fun H5 tp2 l2 lv2 sv2 wk2 sm9 hl2 ht2 hlv2 hrep2 hspot2 => ?_⟩
      have sm10 : Same H H5 := sm8.trans sm9
      refine ⟨tp2, _, rfl, SqT.of ht2, rfl, _, _, rfl, _, _, rfl, _, _, rfl, rfl, ?_⟩
      refine ⟨_, rfl, _, rfl, _, rfl, _, rfl, _, rfl, _, rfl, _, _, rfl, rfl, by show 5 ≤ sizeLine; decide, fun tp3 htp3 => ?_⟩
      have st := same_new (o := .tup [.ref p4, .ref l2, sv2, .int wk2, .int (tot + wk2)]) htp3
      have hb1 : upd H5 tp3 (.tup [.ref p4, .ref l2, sv2, .int wk2, .int (tot + wk2)]) b = some (.ins (cAd K "Buffer") dx [("own_state", .ref tp)]) := st _ _ (sm10 _ _ h1)
      refine ⟨_, rfl, b, _, dx, _, rfl, hb1, W.cl (by decide), W.na (by decide), (show (1 : Nat) < 1000 by decide), ?_⟩
      have bt : tp3 ≠ b := fun z => by rw [z, sm10 _ _ h1] at htp3; cases htp3
      have hBn : BufS K T (upd (upd H5 tp3 (.tup [.ref p4, .ref l2, sv2, .int wk2, .int (tot + wk2)])) b (.ins (cAd K "Buffer") dx (putF "own_state" (.ref tp3) [("own_state", .ref tp)]))) b l2 (exch js f g ks) := by
        have kp : ∀ z o, upd H5 tp3 (.tup [.ref p4, .ref l2, sv2, .int wk2, .int (tot + wk2)]) z = some o → z ∉ [b] → upd (upd H5 tp3 (.tup [.ref p4, .ref l2, sv2, .int wk2, .int (tot + wk2)])) b (.ins (cAd K "Buffer") dx (putF "own_state" (.ref tp3) [("own_state", .ref tp)])) z = some o := fun z o e hz => by
          rw [upd_ne (fun y => hz (by rw [y]; exact List.mem_cons_self ..))]
          exact e
        have al : ∀ z ∈ [b], ∀ o, upd H5 tp3 (.tup [.ref p4, .ref l2, sv2, .int wk2, .int (tot + wk2)]) z = some o → Alien T o := fun z hz o e => by
          rw [List.mem_singleton.mp hz, hb1] at e
          cases e
          exact W.apart _ (by decide)
        have lb : l2 ≠ b := fun y => by rw [y, sm10 _ _ h1] at hlv2; cases hlv2
        refine ⟨⟨dx, tp3, p4, sv2, wk2, tot + wk2, lv2, upd_same, kp_rd kp al (SqT.of upd_same), kp_rd kp al (sqT_same (sm5.trans (sm57.trans (sa.trans (sm9.trans st)))) q5), kp _ _ (st _ _ hlv2) (fun y => lb (List.mem_singleton.mp y)), ?_, ?_⟩, hj', hl'⟩
        · exact RepL.kp W.tat kp al (hrep2.mono st) (noLDs_opt _)
        · refine Rep.kp W.tat kp al (hspot2.mono st) ?_
          cases runS s0 (exch js f g ks) <;> rfl
      refine ⟨_, rfl, b, dx, _, rfl, upd_same, b, l2, exch js f g ks, rfl, hBn, fun v H6 s6 hv => ?_⟩
      have hv : v = .str (toS (verdR (runS s0 (exch js f g ks)))) := hv
      subst hv
      refine hQ H6 l2 (fun z o e hz => s6 _ _ ?_) ?_ (hBn.same s6)
      · rw [upd_ne (fun y => hz (by rw [y]; exact List.mem_cons_self ..))]
        exact st _ _ (sm10 _ _ e)
      · cases e : H l2 with
        | none => rfl
        | some o => rw [sm8 _ _ e] at hl2; cases hl2
end
end Rp
namespace Rp
open PySem PySem.Spec PyProof.Rows L2
section
variable {P : Program} {w : World} {K : PySem.W.Frag} {mg : Str → Option Value} {base : Heap} {T : Cl}
/-- behind a change of a buffer -/
abbrev bufPost (K : PySem.W.Frag) (T : Cl) (b : Addr) (H : Hp) (js' : List Nat) (Q : VK) : Prop := ∀ H' ll', Kp [b] H H' → H ll' = none → BufS K T H' b ll' js' → Q (.str (toS (verdR (runS s0 js')))) H'
theorem bufPost.same {b : Addr} {H H1 : Hp} {js' : List Nat} {Q : VK} (h : bufPost K T b H js' Q) (s : Same H H1) : bufPost K T b H1 js' Q := fun H' ll' kp hl hb => h H' ll' (fun z o e hz => kp z o (s _ _ e) hz) (by
  cases e : H ll' with
  | none => rfl
  | some o => rw [s _ _ e] at hl; cases hl) hb
def spPutIn (K : PySem.W.Frag) (T : Cl) : Sp := fun vs H Q _ => ∃ b i j ll js, vs = [.ref b, .int (i : Nat), lnV j] ∧ BufS K T H b ll js ∧ i ≤ js.length ∧ j < 27 ∧ js.length < 10 ∧ bufPost K T b H (exch js i 0 [j]) Q
theorem one_line {j : Nat} (h : j < 27) : Lines [j] := fun i hi => by rw [List.mem_singleton.mp hi]; exact h
theorem ok_put_in (W : HW P w K mg base T) : FnR P w K mg base CX0 35 (He.fAd K ("Buffer", some "put_in")) (spPutIn K T) := by
  have nd := hc_b_put_in.nd
  obtain ⟨t300, h300⟩ := W.most_
  refine hand_R (hand_fn (d := e_b_put_in) (W.hd _ (List.mem_of_getElem? (i := 13) rfl)) rfl rfl hc_b_put_in (fun vs H Q E h => ?_) (fun _ _ _ _ _ _ us hl => match us, hl with | [_, _, _], _ => by kernel_rfl)
    fun cdv A outer s H vs Q E hr h => ⟨_, PSs.nox (
      pss_cons (ps_set (i := 3) nd rfl (Or.inl rfl) (pe_callB call_len_seq (by rfl) (W.free _ (by decide)) PySem.boot_len (pa_cons (pe_ix ix_tup (pe_fld (pv 0) rfl) pe_int (fun _ _ => rfl)) pa_nil)))
      (pss_cons (ps_if (pt_not (pt_val (pe_pu W (hr.mono (by decide)) rfl rfl (pa_cons (pv 1) (pa_cons (pe_op op_add (pv 3) pe_int) pa_nil))))) pss_never pss_nil)
      (pss_cons (ps_expr (pe_callR (E := E0) (ok_check_line W) (hr.mono (by decide)) rfl (W.glo _ (by decide)) (W.hd e_check_line (List.mem_of_getElem? (i := 3) rfl)).choose_spec.kp pass0 (pa_cons (pv 2) pa_nil) rfl rfl))
      (pss_cons (ps_if (pt_cmpR op_eq (pv 3) (pe_glob rfl h300 (show L2.RelV (.int 300) (.int 300 t300) from ⟨_, rfl⟩)) (nomark _)) pss_never pss_nil)
      (pss_one (ps_ret (pe_methR (E := E0) rfl rfl (by decide) (pv 0) (W.cl (c := "Buffer") (by decide)) (meth_of W (by decide)) (ok_exchanged W) hr pass0 (pa_cons (pv 1) (pa_cons pe_int (pa_cons (pe_tup (pa_cons (pv 2) pa_nil)) pa_nil))) rfl))))))), ?_⟩)
  · obtain ⟨b, i, j, ll, js, rfl, _⟩ := h
    rfl
  · obtain ⟨b, i, j, ll, js, rfl, hB, hi, hj, hn, hQ⟩ := h
    obtain ⟨dx, tp, lt, sv, wk, tot, lv, h1, h2, h3, h4, h5, h6⟩ := hB.ex
    refine ⟨_, rfl, b, _, dx, _, _, rfl, h1, W.cl (by decide), W.na (by decide), rfl, tp, _, _, _, rfl, rfl, h2, atI_nat (j := 0) rfl, lt, _, rfl, .inr h3, ?_⟩
    refine ⟨_, rfl, _, rfl, _, _, rfl, rfl, [.int (i : Nat), .int ((js.length : Int) + 1)], .bl true, ?_, index_ok 29 (by omega) (by omega), fun v H1 s1 r1 => ⟨true, rep_bl r1, iteF ?_⟩⟩
    · rw [List.length_map]
      exact .cons (.int _) (.cons (.int _) .nil)
    · refine ⟨_, rfl, j, hj, rfl, fun H2 s2 => ?_⟩
      refine ⟨_, rfl, rfl, _, rfl, ?_⟩
      have ne : decide (V.int ((js.map lnV).length : Nat) = V.int 300) = false := by
        rw [List.length_map]
        exact decide_eq_false fun z => by have := V.int.inj z; omega
      rw [ne]
      refine iteF ?_
      have sm : Same H H2 := s1.trans s2
      refine ⟨_, rfl, b, dx, _, rfl, sm _ _ h1, rfl, _, rfl, _, rfl, by show 1 ≤ sizeLine; decide, fun u hu => ?_⟩
      have su := same_new (o := .tup [lnV j]) hu
      exact ⟨b, i, 0, u, ll, js, [j], rfl, hB.same (sm.trans su), by omega, SqT.of upd_same, one_line hj, by rw [exch_len (by omega)]; show i + 1 + _ ≤ _; omega, hQ.same (sm.trans su)⟩
theorem exch_add (js : List Nat) (j : Nat) : exch js js.length 0 [j] = js ++ [j] := by
  unfold exch
  rw [List.take_length, Nat.add_zero, List.drop_length]
  rfl
def spAdd (K : PySem.W.Frag) (T : Cl) : Sp := fun vs H Q _ => ∃ b j ll js, vs = [.ref b, lnV j] ∧ BufS K T H b ll js ∧ j < 27 ∧ js.length < 10 ∧ bufPost K T b H (js ++ [j]) Q
theorem ok_b_add (W : HW P w K mg base T) : FnR P w K mg base CX0 36 (He.fAd K ("Buffer", some "add")) (spAdd K T) := by
  refine hand_R (hand_fn (d := e_b_add) (W.hd _ (List.mem_of_getElem? (i := 14) rfl)) rfl rfl hc_b_add (fun vs H Q E h => ?_) (fun _ _ _ _ _ _ us hl => match us, hl with | [_, _], _ => by kernel_rfl)
    fun cdv A outer s H vs Q E hr h => ⟨_, PSs.nox (
      pss_one (ps_ret (pe_methR (E := E0) rfl rfl (by decide) (pv 0) (W.cl (c := "Buffer") (by decide)) (meth_of W (by decide)) (ok_put_in W) hr pass0 (pa_cons (pe_callB call_len_seq (by rfl) (W.free _ (by decide)) PySem.boot_len (pa_cons (pe_ix ix_tup (pe_fld (pv 0) rfl) pe_int (fun _ _ => rfl)) pa_nil)) (pa_cons (pv 1) pa_nil)) rfl))), ?_⟩)
  · obtain ⟨b, j, ll, js, rfl, _⟩ := h
    rfl
  · obtain ⟨b, j, ll, js, rfl, hB, hj, hn, hQ⟩ := h
    obtain ⟨dx, tp, lt, sv, wk, tot, lv, h1, h2, h3, h4, h5, h6⟩ := hB.ex
    refine ⟨_, rfl, b, dx, _, rfl, h1, rfl, _, rfl, b, _, dx, _, _, rfl, h1, W.cl (by decide), W.na (by decide), rfl, tp, _, _, _, rfl, rfl, h2, atI_nat (j := 0) rfl, lt, _, rfl, .inr h3, ?_⟩
    refine ⟨_, rfl, b, js.length, j, ll, js, ?_, hB, Nat.le_refl _, hj, hn, ?_⟩
    · rw [List.length_map]
    · rw [exch_add]
      exact hQ
def spChange (K : PySem.W.Frag) (T : Cl) : Sp := fun vs H Q _ => ∃ b i j ll js, vs = [.ref b, .int (i : Nat), lnV j] ∧ BufS K T H b ll js ∧ i < js.length ∧ j < 27 ∧ bufPost K T b H (exch js i 1 [j]) Q
theorem ok_change (W : HW P w K mg base T) : FnR P w K mg base CX0 35 (He.fAd K ("Buffer", some "change")) (spChange K T) := by
  refine hand_R (hand_fn (d := e_b_change) (W.hd _ (List.mem_of_getElem? (i := 15) rfl)) rfl rfl hc_b_change (fun vs H Q E h => ?_) (fun _ _ _ _ _ _ us hl => match us, hl with | [_, _, _], _ => by kernel_rfl)
    fun cdv A outer s H vs Q E hr h => ⟨_, PSs.nox (
      pss_cons (ps_if (pt_not (pt_val (pe_pu W (hr.mono (by decide)) rfl rfl (pa_cons (pv 1) (pa_cons (pe_callB call_len_seq (by rfl) (W.free _ (by decide)) PySem.boot_len (pa_cons (pe_ix ix_tup (pe_fld (pv 0) rfl) pe_int (fun _ _ => rfl)) pa_nil)) pa_nil))))) pss_never pss_nil)
      (pss_cons (ps_expr (pe_callR (E := E0) (ok_check_line W) (hr.mono (by decide)) rfl (W.glo _ (by decide)) (W.hd e_check_line (List.mem_of_getElem? (i := 3) rfl)).choose_spec.kp pass0 (pa_cons (pv 2) pa_nil) rfl rfl))
      (pss_one (ps_ret (pe_methR (E := E0) rfl rfl (by decide) (pv 0) (W.cl (c := "Buffer") (by decide)) (meth_of W (by decide)) (ok_exchanged W) hr pass0 (pa_cons (pv 1) (pa_cons pe_int (pa_cons (pe_tup (pa_cons (pv 2) pa_nil)) pa_nil))) rfl))))), ?_⟩)
  · obtain ⟨b, i, j, ll, js, rfl, _⟩ := h
    rfl
  · obtain ⟨b, i, j, ll, js, rfl, hB, hi, hj, hQ⟩ := h
    obtain ⟨dx, tp, lt, sv, wk, tot, lv, h1, h2, h3, h4, h5, h6⟩ := hB.ex
    have hl := hB.len
    refine ⟨_, rfl, _, rfl, b, _, dx, _, _, rfl, h1, W.cl (by decide), W.na (by decide), rfl, tp, _, _, _, rfl, rfl, h2, atI_nat (j := 0) rfl, lt, _, rfl, .inr h3, ?_⟩
    refine ⟨[.int (i : Nat), .int (js.length : Nat)], .bl true, ?_, index_ok 29 (by omega) (by omega), fun v H1 s1 r1 => ⟨true, rep_bl r1, iteF ?_⟩⟩
    · rw [List.length_map]
      exact .cons (.int _) (.cons (.int _) .nil)
    · refine ⟨_, rfl, j, hj, rfl, fun H2 s2 => ?_⟩
      have sm : Same H H2 := s1.trans s2
      refine ⟨_, rfl, b, dx, _, rfl, sm _ _ h1, rfl, _, rfl, _, rfl, by show 1 ≤ sizeLine; decide, fun u hu => ?_⟩
      have su := same_new (o := .tup [lnV j]) hu
      exact ⟨b, i, 1, u, ll, js, [j], rfl, hB.same (sm.trans su), by omega, SqT.of upd_same, one_line hj, by rw [exch_len (by omega)]; show i + 1 + _ ≤ _; omega, hQ.same (sm.trans su)⟩
theorem exch_wd {js : List Nat} (h : 0 < js.length) : exch js (js.length - 1) 1 [] = js.dropLast := by
  unfold exch
  rw [List.nil_append, List.drop_of_length_le (by omega), List.append_nil, List.dropLast_eq_take]
def spWd (K : PySem.W.Frag) (T : Cl) : Sp := fun vs H Q _ => ∃ b ll js, vs = [.ref b, .int 1] ∧ BufS K T H b ll js ∧ 0 < js.length ∧ bufPost K T b H js.dropLast Q
theorem hand_dfl {d : He.DefD} {a : Addr} {N ps : List Str} {k n : Nat} {sp : Sp} (D : ∃ fd, FunD K d.name d.qual d.params d.body d.scope (d.dvs K) (d.kws K) a fd) (hd : d.dfl ≠ []) (hk : d.kwd = []) (hn : n + d.dfl.length = ps.length) (S : FnScope N ps d.scope) (len : ∀ vs H Q E, sp vs H Q E → vs.length = ps.length)
    (hb : ∀ (j : Nat), j ≤ d.dfl.length → ∀ (T : Addr) (kV doc pm : Value) (an : Option Addr) (cdv ct : Value) (us its : List Value), us.length = n + j → its.length = d.dfl.length → ∃ k, bindArgs (PySem.W.fnOf d.name d.qual d.params d.body d.scope (.ref T) kV doc pm an cdv ct) ⟨us, []⟩ = seqItems? (.ref T) >>= k ∧ k (some its.toArray) = pure (ps.zip (us ++ its.drop j)))
    (hbody : ∀ (cdv : Value) (A : Around) (outer : List Env) (s : Shared) (H : Hp) (vs : List V) (Q : VK) (E : XK), Room k (A.deeper (envOfC d.qual d.scope s.heap.objs.size a cdv)) → sp vs H Q E →
      ∃ t, PSs (cxOf CX0 P w K mg base N d.qual d.scope a cdv A outer s H E) d.body t ∧ t { nx := fun _ H' => Q .non H', rt := Q } (L2.start N vs) H) (j : Nat) (hj : j ≤ d.dfl.length) :
    FnR P w K mg base CX0 (k + 1) a (fun vs H Q E => sp (vs ++ (d.dvs K).drop j) H Q E) := by
  obtain ⟨fd, D⟩ := D
  have e2 : d.kws K = [] := by unfold He.DefD.kws; rw [hk]; rfl
  rw [e2] at D
  have el : (d.dvs K).length = d.dfl.length := by unfold He.DefD.dvs; rw [List.length_map]
  have h0 : d.dvs K ≠ [] := fun z => by rw [z] at el; exact hd (List.length_eq_zero_iff.mp el.symm)
  obtain ⟨ds, h1, h2⟩ := D.binds1 (n + j) j h0 (by rw [el]; omega) fun T kV doc pm an cdv ct us its h1 h2 => hb j hj T kV doc pm an cdv ct us its h1 (by rw [h2, el])
  exact (D.ok S len hbody).raw h2 h1
theorem ok_b_withdraw (W : HW P w K mg base T) : FnR P w K mg base CX0 35 (He.fAd K ("Buffer", some "withdraw")) (spWd K T) := by
  have nd := hc_b_withdraw.nd
  refine (hand_dfl (d := e_b_withdraw) (n := 1) (k := 34) (sp := spWd K T) (W.hd _ (List.mem_of_getElem? (i := 16) rfl)) (fun z => nomatch z) rfl rfl hc_b_withdraw (fun vs H Q E h => ?_) (fun j hj T kV doc pm an cdv ct us its h1 h2 => ?_)
    (fun cdv A outer s H vs Q E hr h => ⟨_, PSs.nox (
      pss_cons (ps_if (PW.pt (pw_or (pt_not (pt_val (pe_callB call_isi (by rfl) (W.free _ (by decide)) PyProof.Rows.boot_isinstance (pa_cons (pv 1) (pa_cons (pe_bltn (v := .ty "int") rfl (W.free "int" (by decide)) PyProof.Rows.boot_int rfl (by decide) (by decide)) pa_nil)))))
          (pw_or (pt_val (pe_callB call_isi (by rfl) (W.free _ (by decide)) PyProof.Rows.boot_isinstance (pa_cons (pv 1) (pa_cons (pe_bltn (v := .ty "bool") rfl (W.free "bool" (by decide)) boot_bool rfl (by decide) (by decide)) pa_nil)))) (pw_or1 (pt_cmpR op_lt (pv 1) pe_int (nomark _)))))) pss_never pss_nil)
      (pss_cons (ps_set (i := 2) nd rfl (Or.inl rfl) (pe_callB call_len_seq (by rfl) (W.free _ (by decide)) PySem.boot_len (pa_cons (pe_ix ix_tup (pe_fld (pv 0) rfl) pe_int (fun _ _ => rfl)) pa_nil)))
      (pss_cons (ps_if (pt_cmpR op_gt (pv 1) (pv 2) (nomark _)) pss_never pss_nil)
      (pss_one (ps_ret (pe_methR (E := E0) rfl rfl (by decide) (pv 0) (W.cl (c := "Buffer") (by decide)) (meth_of W (by decide)) (ok_exchanged W) hr pass0 (pa_cons (pe_op op_sub (pv 2) (pv 1)) (pa_cons (pv 1) (pa_cons (pe_tup pa_nil) pa_nil))) rfl)))))), ?_⟩) 1 (by decide)).imp fun vs H Q E h => ?_
  · obtain ⟨b, ll, js, rfl, _⟩ := h
    rfl
  · match its, h2 with
    | [i1], _ =>
      match j, us, h1 with
      | 0, [a], _ => exact ⟨_, rfl, by kernel_rfl⟩
      | 1, [a, b], _ => exact ⟨_, rfl, by kernel_rfl⟩
      | j + 2, _, _ => exact absurd hj (by show ¬ j + 2 ≤ 1; omega)
  · obtain ⟨b, ll, js, rfl, hB, hn, hQ⟩ := h
    obtain ⟨dx, tp, lt, sv, wk, tot, lv, h1, h2, h3, h4, h5, h6⟩ := hB.ex
    have hl := hB.len
    obtain ⟨ty1, k1, e1, hty1, hk1⟩ := isi_int (K := K) (T := T) H (.int 1) (.int 1) _ (.int 1) rfl
    obtain ⟨ty2, k2, e2, hty2, hk2⟩ := isi_bool (K := K) (T := T) H (.int 1) (.int 1) _ (.int 1) rfl
    cases (show D.bl true = .bl k1 from e1)
    cases (show D.bl false = .bl k2 from e2)
    refine ⟨_, rfl, .int 1, .ty "int", ty1, .type "int", _, rfl, .ty "int", hty1, hk1, true, rfl, iteF ?_⟩
    refine ⟨_, rfl, .int 1, .ty "bool", ty2, .type "bool", _, rfl, .ty "bool", hty2, hk2, false, rfl, iteF ?_⟩
    refine ⟨_, rfl, _, _, rfl, rfl, _, rfl, iteF ?_⟩
    refine ⟨_, rfl, b, _, dx, _, _, rfl, h1, W.cl (by decide), W.na (by decide), rfl, tp, _, _, _, rfl, rfl, h2, atI_nat (j := 0) rfl, lt, _, rfl, .inr h3, ?_⟩
    refine ⟨_, rfl, _, rfl, _, _, rfl, rfl, ?_⟩
    refine ⟨_, rfl, ?_⟩
    have ne : decide ((((js.map lnV).length : Nat) : Int) < 1) = false := by
      rw [List.length_map]
      exact decide_eq_false (by omega)
    rw [ne]
    refine iteF ?_
    refine ⟨_, rfl, b, dx, _, rfl, h1, rfl, _, rfl, _, rfl, _, _, rfl, rfl, _, rfl, by show 0 ≤ sizeLine; decide, fun u hu => ?_⟩
    have su := same_new (o := .tup []) hu
    exact ⟨b, js.length - 1, 1, u, ll, js, [], by rw [List.length_map, Int.ofNat_sub hn]; rfl, hB.same su, by omega, SqT.of upd_same, fun _ h => absurd h List.not_mem_nil, by rw [exch_len (by omega)]; show js.length - 1 + 0 + (js.length - (js.length - 1 + 1)) ≤ _; omega, by rw [exch_wd hn]; exact hQ.same su⟩
  · show spWd K T (vs ++ []) H Q E
    rw [List.append_nil]
    exact h
end
end Rp
namespace Rp
open PySem PySem.Spec PyProof.Rows L2
section
variable {P : Program} {w : World} {K : PySem.W.Frag} {mg : Str → Option Value} {base : Heap} {T : Cl}
theorem HisS.same {H H' : Hp} {h lr : Addr} {kept : List (List Ch)} (a : HisS K H h lr kept) (s : Same H H') : HisS K H' h lr kept := by
  obtain ⟨dx, h1, h2⟩ := a
  exact ⟨dx, s _ _ h1, s _ _ h2⟩
theorem HisS.kp {H H' : Hp} {h lr : Addr} {kept : List (List Ch)} {fp : List Addr} (a : HisS K H h lr kept) (s : Kp fp H H') (n1 : h ∉ fp) (n2 : lr ∉ fp) : HisS K H' h lr kept := by
  obtain ⟨dx, h1, h2⟩ := a
  exact ⟨dx, s _ _ h1 n1, s _ _ h2 n2⟩
def spHInit (K : PySem.W.Frag) : Sp := fun vs H Q _ => ∃ x dx, vs = [.ref x, .int 100] ∧ H x = some (.ins (cAd K "History") dx []) ∧ ∀ H' lr, Kp [x] H H' → H lr = none → HisS K H' x lr [] → Q .non H'
theorem ok_h_init (W : HW P w K mg base T) : ∀ j, j ≤ 1 → FnR P w K mg base CX0 33 (He.fAd K ("History", some "__init__")) (fun vs H Q E => spHInit K (vs ++ ([V.int 100] : List V).drop j) H Q E) := by
  have nd := hc_h_init.nd
  obtain ⟨t100, h100⟩ := W.great_
  refine hand_dfl (d := e_h_init) (n := 1) (k := 32) (sp := spHInit K) (W.hd _ (List.mem_of_getElem? (i := 17) rfl)) (fun z => nomatch z) rfl rfl hc_h_init (fun vs H Q E h => ?_) (fun j hj T kV doc pm an cdv ct us its h1 h2 => ?_)
    (fun cdv A outer s H vs Q E hr h => ⟨_, PSs.nox (
      pss_cons (ps_if (PW.pt (pw_or (pt_not (pt_val (pe_pu W hr rfl rfl (pa_cons (pv 1) (pa_cons pe_int pa_nil))))) (pw_or1 (pt_cmpR op_gt (pv 1) (pe_glob rfl h100 (show L2.RelV (.int 100) (.int 100 t100) from ⟨_, rfl⟩)) (nomark _))))) pss_never pss_nil)
      (pss_cons (ps_fld (pv 0) (pv 1) rfl)
      (pss_one (ps_fld (pv 0) (pe_lst pa_nil) rfl)))), ?_⟩)
  · obtain ⟨x, dx, rfl, _⟩ := h
    rfl
  · match its, h2 with
    | [i1], _ =>
      match j, us, h1 with
      | 0, [a], _ => exact ⟨_, rfl, by kernel_rfl⟩
      | 1, [a, b], _ => exact ⟨_, rfl, by kernel_rfl⟩
      | j + 2, _, _ => exact absurd hj (by show ¬ j + 2 ≤ 1; omega)
  · obtain ⟨x, dx, rfl, hx, hQ⟩ := h
    refine ⟨_, rfl, [.int 100, .int 1], .bl true, .cons (.int _) (.cons (.int _) .nil), count_ok 29 (by decide), fun v H1 s1 r1 => ⟨true, rep_bl r1, iteF ⟨_, rfl, _, _, rfl, rfl, _, rfl, iteF ?_⟩⟩⟩
    refine ⟨_, rfl, _, rfl, x, _, dx, _, rfl, s1 _ _ hx, W.cl (by decide), W.na (by decide), by decide, ?_⟩
    refine ⟨by show 0 ≤ sizeLine; decide, fun l hl => ?_⟩
    have hl : upd H1 x (.ins (cAd K "History") dx [("bound", .int 100)]) l = none := hl
    have xl : l ≠ x := fun z => by rw [z, upd_same] at hl; cases hl
    have hl1 : H1 l = none := by rw [upd_ne xl] at hl; exact hl
    have hl0 : H l = none := by
      cases e : H l with
      | none => rfl
      | some o => rw [s1 _ _ e] at hl1; cases hl1
    have sl := same_new (o := .lst []) hl
    refine ⟨_, rfl, x, _, dx, _, rfl, sl _ _ upd_same, W.cl (by decide), W.na (by decide), by decide, ?_⟩
    refine hQ _ l ?_ hl0 ⟨dx, upd_same, ?_⟩
    · refine Kp.upd (Kp.same (Kp.upd (Kp.of s1) ?_) sl) ?_ <;> exact List.mem_cons_self ..
    · rw [upd_ne xl]
      exact upd_same
def addK (kept : List (List Ch)) (t : List Ch) : List (List Ch) := if kept.getLast? = some t then kept else kept ++ [t]
def spHAdd (K : PySem.W.Frag) : Sp := fun vs H Q _ => ∃ h lr kept js, vs = [.ref h, txV (textS js)] ∧ HisS K H h lr kept ∧ Lines js ∧ js.length ≤ 10 ∧ verdR (runS s0 js) = tComplete ∧ kept.length < 100 ∧ h ≠ lr ∧ ∀ H', Kp [lr] H H' → HisS K H' h lr (addK kept (textS js)) → Q .non H'
theorem repTx {H : Hp} : ∀ (l : List (List Ch)), RepL K T H (l.map txV) (l.map D.str)
  | [] => .nil
  | a :: l => .cons (.str a) (repTx l)
theorem ok_h_add (W : HW P w K mg base T) : FnR P w K mg base CX0 33 (He.fAd K ("History", some "add")) (spHAdd K) := by
  have nd := hc_h_add.nd
  refine hand_R (hand_fn (d := e_h_add) (W.hd _ (List.mem_of_getElem? (i := 18) rfl)) rfl rfl hc_h_add (fun vs H Q E h => ?_) (fun _ _ _ _ _ _ us hl => match us, hl with | [_, _], _ => by kernel_rfl)
    fun cdv A outer s H vs Q E hr h => ⟨_, PSs.nox (
      pss_cons (ps_if (pt_not (pt_val (pe_pu W hr rfl rfl (pa_cons (pv 1) pa_nil)))) pss_never pss_nil)
      (pss_cons (ps_if (PW.pt (pw_or (pt_cmpR (op_eqR (T := T) hr.units0) (pe_fld (pv 0) rfl) (pe_lst pa_nil) (nomark _)) (pw_or1 (pt_cmpR (op_neR (T := T) hr.units0) (pe_ix ix_list (pe_fld (pv 0) rfl) (pe_un un_neg pe_int) (fun _ _ => rfl)) (pv 1) (nomark _)))))
        (pss_one (ps_expr (pe_bm PySem.F.plainAttrs_list PySem.F.slot_list_append PySem.F.type_list_append mt_append (pe_fld (pv 0) rfl) (pa_cons (pv 1) pa_nil)))) pss_nil)
      (pss_one (ps_if (pt_cmpR op_gt (pe_callB call_len_seq (by rfl) (W.free _ (by decide)) PySem.boot_len (pa_cons (pe_fld (pv 0) rfl) pa_nil)) (pe_fld (pv 0) rfl) (nomark _)) pss_never pss_nil)))), ?_⟩)
  · obtain ⟨x, lr, kept, js, rfl, _⟩ := h
    rfl
  · obtain ⟨h, lr, kept, js, rfl, hS, hj, hl, hv, hk, hlr, hQ⟩ := h
    obtain ⟨dx, h1, h2⟩ := hS
    refine ⟨_, rfl, [.str (textS js)], .bl true, .cons (.str _) .nil, ?_, fun v H1 s1 r1 => ⟨true, rep_bl r1, iteF ?_⟩⟩
    · have e := isEntry_ok 12 hj hl
      rw [hv] at e
      exact e
    · refine ⟨_, rfl, h, _, dx, _, _, rfl, s1 _ _ h1, W.cl (by decide), W.na (by decide), rfl, by show 0 ≤ sizeLine; decide, fun q hq => ?_⟩
      have sq := same_new (o := .lst []) hq
      refine ⟨.lst (kept.map .str), .lst [], .bl kept.isEmpty, .lst (.inl (sq _ _ (s1 _ _ h2))) (repTx kept), .lst (.inl upd_same) .nil, by cases kept <;> rfl, fun v2 H2 s2 r2 => ⟨_, rep_bl r2, ?_⟩⟩
      have sm : Same H H2 := s1.trans (sq.trans s2)
      cases hb0 : kept.isEmpty with
      | true =>
        refine iteT ?_
        have hk0 : kept = [] := List.isEmpty_iff.mp hb0
        refine ⟨_, rfl, h, _, dx, _, _, rfl, sm _ _ h1, W.cl (by decide), W.na (by decide), rfl, .inl ⟨rfl, _, SqL.of (sm _ _ h2)⟩, _, rfl, lr, _, _, rfl, rfl, sm _ _ h2, by rw [List.length_map, sizeLine_eq]; omega, ?_⟩
        have g1 : upd H2 lr (.lst (kept.map txV ++ [txV (textS js)])) h = some (.ins (cAd K "History") dx [("bound", .int 100), ("rows", .ref lr)]) := by rw [upd_ne hlr]; exact sm _ _ h1
        have g2 : upd H2 lr (.lst (kept.map txV ++ [txV (textS js)])) lr = some (.lst ((kept ++ [textS js]).map txV)) := by rw [upd_same, List.map_append]; rfl
        refine ⟨_, rfl, h, _, dx, _, _, rfl, g1, W.cl (by decide), W.na (by decide), rfl, lr, _, rfl, .inl (SqL.of (g2)), _, rfl, h, _, dx, _, _, rfl, g1, W.cl (by decide), W.na (by decide), rfl, _, _, rfl, rfl, _, rfl, ?_⟩
        have ne : decide ((100 : Int) < (((kept ++ [textS js]).map txV).length : Nat)) = false := by
          rw [List.length_map]
          exact decide_eq_false (by rw [List.length_append]; show ¬ (100 : Int) < ((kept.length + 1 : Nat) : Int); omega)
        rw [ne]
        refine iteF ?_
        exact hQ _ (Kp.upd (Kp.of sm) (List.mem_cons_self ..)) ⟨dx, g1, by rw [show addK kept (textS js) = kept ++ [textS js] from by unfold addK; rw [hk0]; exact if_neg fun z => by cases z]; exact g2⟩
      | false =>
        refine iteF ?_
        have hne : kept.length = (kept.length - 1) + 1 := by
          cases kept with
          | nil => cases hb0
          | cons a l => rfl
        obtain ⟨t, ht⟩ : ∃ t, kept[kept.length - 1]? = some t := ⟨_, List.getElem?_eq_getElem (by omega)⟩
        have hlast : kept.getLast? = some t := by rw [List.getLast?_eq_getElem?]; exact ht
        refine ⟨_, rfl, h, _, dx, _, _, rfl, sm _ _ h1, W.cl (by decide), W.na (by decide), rfl, 1, rfl, lr, _, -1, _, rfl, rfl, SqL.of (sm _ _ h2), atI_m1 (n := kept.length - 1) (d := txV t) (by rw [List.length_map]; exact hne) (by rw [List.getElem?_map, ht]; rfl), _, rfl, ?_⟩
        refine ⟨.str t, .str (textS js), .bl (!(beqS t (textS js))), .str _, .str _, rfl, fun v3 H3 s3 r3 => ⟨_, rep_bl r3, ?_⟩⟩
        have sm3 := sm.trans s3
        cases hb : beqS t (textS js) with
        | true =>
          refine iteF ?_
          refine ⟨_, rfl, h, _, dx, _, _, rfl, sm3 _ _ h1, W.cl (by decide), W.na (by decide), rfl, lr, _, rfl, .inl (SqL.of (sm3 _ _ h2)), _, rfl, h, _, dx, _, _, rfl, sm3 _ _ h1, W.cl (by decide), W.na (by decide), rfl, _, _, rfl, rfl, _, rfl, ?_⟩
          have ne : decide ((100 : Int) < ((kept.map txV).length : Nat)) = false := by
            rw [List.length_map]
            exact decide_eq_false (by omega)
          rw [ne]
          refine iteF ?_
          exact hQ _ (Kp.of sm3) ⟨dx, sm3 _ _ h1, by rw [show addK kept (textS js) = kept from by unfold addK; rw [hlast, beqS_iff.mp hb]; exact if_pos rfl]; exact sm3 _ _ h2⟩
        | false =>
          refine iteT ?_
          refine ⟨_, rfl, h, _, dx, _, _, rfl, sm3 _ _ h1, W.cl (by decide), W.na (by decide), rfl, .inl ⟨rfl, _, SqL.of (sm3 _ _ h2)⟩, _, rfl, lr, _, _, rfl, rfl, sm3 _ _ h2, by rw [List.length_map, sizeLine_eq]; omega, ?_⟩
          have g1 : upd H3 lr (.lst (kept.map txV ++ [txV (textS js)])) h = some (.ins (cAd K "History") dx [("bound", .int 100), ("rows", .ref lr)]) := by rw [upd_ne hlr]; exact sm3 _ _ h1
          have g2 : upd H3 lr (.lst (kept.map txV ++ [txV (textS js)])) lr = some (.lst ((kept ++ [textS js]).map txV)) := by rw [upd_same, List.map_append]; rfl
          refine ⟨_, rfl, h, _, dx, _, _, rfl, g1, W.cl (by decide), W.na (by decide), rfl, lr, _, rfl, .inl (SqL.of (g2)), _, rfl, h, _, dx, _, _, rfl, g1, W.cl (by decide), W.na (by decide), rfl, _, _, rfl, rfl, _, rfl, ?_⟩
          have ne : decide ((100 : Int) < (((kept ++ [textS js]).map txV).length : Nat)) = false := by
            rw [List.length_map]
            exact decide_eq_false (by rw [List.length_append]; show ¬ (100 : Int) < ((kept.length + 1 : Nat) : Int); omega)
          rw [ne]
          refine iteF ?_
          exact hQ _ (Kp.upd (Kp.of sm3) (List.mem_cons_self ..)) ⟨dx, g1, by rw [show addK kept (textS js) = kept ++ [textS js] from by unfold addK; rw [hlast]; exact if_neg fun z => by rw [beqS_iff.mpr (Option.some.inj z)] at hb; cases hb]; exact g2⟩
end
end Rp
namespace PySem
open Sem (wp)
section
variable {M : Model} {A : Around} {R : GenEnd} {Y : Protocol} {n : Nat} {s₀ : Shared} {c : Code} {fs : List Frame} {s : Shared} {env : Env}
  {K : Flow → Sem Fin} {H : Value → Sem Fin} {gd : Bool → Bool} {lv : List Value → List Value}
theorem seg_ForY {target iter : Expr} {body orelse : List Stmt} {pos : Pos}
    (h : wpAny M (A.over c fs) (eval iter env) (fun x s1 => wpAny M (A.over c fs) (pyIter x) (fun it s2 => ∀ p, Seg M A R Y n s₀ (.forLoop target it body orelse env) (M.den (.forLoop target it body orelse env))
      (.ret (fun r => ((match r with | .ok f => (.pure f : Sem Flow) | .error e => .raise e).onRaise fun (x : Value) => do
        if (← field x 1) == Value.none then unsupported "frame.own-activation:exception-without-traceback"
        setFlight x env.frame).wrap K H gd lv) none (gd false) (lv []) c p [] :: fs) s2) (fun x s' => Seg M A R Y n s₀ c (H x) fs s') s1) (fun x s' => Seg M A R Y n s₀ c (H x) fs s') s)
    (hs : ∀ x, foldedSetIterable iter env x = pure x) :
    Seg M A R Y n s₀ c ((exec (.For target iter body orelse pos) env).wrap K H gd lv) fs s := by
  rw [exec_For]
  refine seg_at ?_
  show Seg M A R Y n s₀ c ((eval iter env >>= fun v => foldedSetIterable iter env v >>= fun x => (standAt iter.pos >>= fun _ => (holding [x] (pyIter x) >>= fun it => runOwn (.forLoop target it body orelse env) env))).wrap K H gd lv) fs s
  rw [Sem.bind_eq_wrap', Sem.wrap_wrap]
  refine seg_wrap (wpAny_mono h (fun x s1 h1 => ?_) fun _ _ z => z)
  rw [Sem.bind_eq_wrap', Sem.wrap_wrap]
  refine seg_wrap (wpAny_of_eq (hs x) ?_)
  refine seg_at ?_
  show Seg M A R Y n s₀ c ((holding [x] (pyIter x) >>= fun it => runOwn (.forLoop target it body orelse env) env).wrap K H gd lv) fs s1
  rw [Sem.bind_eq_wrap', Sem.wrap_wrap]
  refine seg_wrap (wpAny_holding (wpAny_mono h1 (fun it s2 h2 => ?_) fun _ _ z => z))
  exact seg_call h2
end
section
variable {prog : Program} {w : World} {A : Around} {R : GenEnd} {Y : Protocol} {n : Nat} {s₀ : Shared} {fs : List Frame} {s : Shared} {env : Env}
abbrev notedX (env : Env) (x : Value) : Sem Fin := (do noteFrame x env; theTreesLotGoes x : Sem Unit).wrap (fun _ => .raise x) .raise id id
theorem seg_forLoopY {target : Expr} {it : Value} {body orelse : List Stmt} {c : Code} (hc : c = .forLoop target it body orelse env)
    (h : wpAny (model prog w) (A.over c fs) (pyNext it) (fun r s1 => match r with
      | none => Seg (model prog w) A R Y n s₀ (.block orelse env) ((model prog w).den (.block orelse env)) fs s1
      | some v => wpAny (model prog w) (A.over c fs) (letOwnedTupleGo target it v) (fun _ s2 => wpAny (model prog w) (A.over c fs) (assign target env v) (fun _ s3 =>
          Seg (model prog w) A R Y n s₀ c ((execs body env).wrap (fun f => match f with
            | .next | .cont => .pure (.again c)
            | .brk => .pure (.done .next)
            | .ret v => .pure (.done (.ret v))) (fun e => notedX env e) id id) fs s3)
          (fun x s' => Seg (model prog w) A R Y n s₀ c (notedX env x) fs s') s2) (fun x s' => Seg (model prog w) A R Y n s₀ c (notedX env x) fs s') s1)
      (fun x s' => Seg (model prog w) A R Y n s₀ c (notedX env x) fs s') s) :
    Seg (model prog w) A R Y n s₀ c ((model prog w).den c) fs s := by
  subst hc
  show Seg _ A R Y n s₀ _ ((forTurn target it body orelse env).onRaise (fun x => do noteFrame x env; theTreesLotGoes x)) fs s
  unfold forTurn
  rw [Sem.onRaise_eq_wrap]
  refine seg_at ?_
  have hE : ∀ (x : Value) (s' : Shared), Seg (model prog w) A R Y n s₀ (.forLoop target it body orelse env) (notedX env x) fs s' →
      Seg (model prog w) A R Y n s₀ (.forLoop target it body orelse env) ((do noteFrame x env; theTreesLotGoes x : Sem Unit).bind fun _ => .raise x) fs s' := fun x s' hx => by rw [Sem.bind_eq_wrap]; exact hx
  show Seg _ A R Y n s₀ _ (((pyNext it).onRaise (fun _ => standAt { target.pos with line := 0 }) >>= fun r => match r with
    | none => again (.block orelse env)
    | some v => letOwnedTupleGo target it v >>= fun _ => assign target env v >>= fun _ => execs body env >>= fun f => match f with
      | .next | .cont => again (.forLoop target it body orelse env)
      | .brk => pure (.done .next)
      | .ret v => pure (.done (.ret v))).wrap _ _ _ _) fs s
  rw [Sem.bind_eq_wrap', Sem.wrap_wrap]
  refine seg_wrap (wpAny_onRaise (wpAny_mono h (fun r s1 h1 => ?_) fun x s1 h1 => wpAny_standAt (hE x s1 h1)))
  cases r with
  | none => exact seg_again rfl h1
  | some v =>
    show Seg _ A R Y n s₀ _ ((letOwnedTupleGo target it v >>= fun _ => assign target env v >>= fun _ => execs body env >>= fun f => match f with
      | .next | .cont => again (.forLoop target it body orelse env)
      | .brk => pure (.done .next)
      | .ret v => pure (.done (.ret v))).wrap _ _ _ _) fs s1
    rw [Sem.bind_eq_wrap', Sem.wrap_wrap]
    refine seg_wrap (wpAny_mono h1 (fun _ s2 h2 => ?_) fun x s1 h1 => hE x s1 h1)
    rw [Sem.bind_eq_wrap', Sem.wrap_wrap]
    refine seg_wrap (wpAny_mono h2 (fun _ s3 h3 => ?_) fun x s1 h1 => hE x s1 h1)
    rw [Sem.bind_eq_wrap', Sem.wrap_wrap]
    rw [Sem.wrap_congr (execs body env) _ _ (K' := fun f => match f with
            | .next | .cont => .pure (.again (.forLoop target it body orelse env))
            | .brk => .pure (.done .next)
            | .ret v => .pure (.done (.ret v))) (H' := fun e => notedX env e)
        (fun f => by cases f <;> rfl)
        (fun e => by show (do noteFrame e env; theTreesLotGoes e : Sem Unit).bind (fun _ => .raise e) = _; rw [Sem.bind_eq_wrap])]
    exact h3
end
end PySem
namespace L2
open PySem PySem.Spec PyProof.Rows GenW
section
variable {X : Cx}
def tGFor (wi : TI) (g : TG) (tb : TGn) : TGn := fun D ys σ H => wi σ H fun J H1 => ∃ W : Nat → Nat → List V → St → Hp → Prop, (∃ m, W 0 m ys σ H1) ∧ ∀ i m ys σ H, W i m ys σ H →
  (J.stop i H ∧ D.nx ys σ H) ∨ (J.go i H ∧ ∃ N : List V → St → Hp → Prop, (∀ ys' σ' H', N ys' σ' H' → ∃ m', m' < m ∧ W (i + 1) m' ys' σ' H') ∧ ∀ x H', J.yld i H x H' → g x σ H' fun σ2 H2 => tb { D with nx := N, ct := N, bk := D.nx } ys σ2 H2)
theorem gi_unip {S : Addr} {ip pl : List (Addr × Obj)} {ys : List V} {σ : St} {H : Hp} {s : Shared} (h : GI X S (ip ++ pl) ys σ H s) : GI X S ip ys σ H s := by
  obtain ⟨acc, c, r, I⟩ := h
  exact ⟨acc, c, r, I.unpinned (pins := (S, lstObj acc c) :: ip) (pl := pl)⟩
theorem gs_for {tg iter : Expr} {body : List Stmt} {pos : Pos} {wi : TI} {g : TG} {tb : TGn} (hp : PassesOwn (model X.prog X.w) X.A X.env X.xe) (hc : X.calm = true) (hi : PI X tg iter wi) (hg : PG X tg g) (hb : GSs X body tb)
    (hs : ∀ x, foldedSetIterable iter X.env x = pure x := by intro _; rfl) : GS X (.For tg iter body [] pos) (tGFor wi g tb) := by
  refine ⟨fun A S ip R n ys s₀ c fs K J gd lv s σ H D gc hn0 k hI ht => ?_⟩
  obtain ⟨acc0, cc0, r0, I0⟩ := hI
  refine seg_ForY ?_ hs
  rw [gc.over]
  refine wpAny_mono (hi.run _ s σ H _ I0 ht) (fun v s1 h1 => wpAny_mono h1 (fun itv s2 h2 => ?_) fun x s' hx => k.exc n s₀ x s' hx) fun x s' hx => k.exc n s₀ x s' hx
  obtain ⟨it, fp, tn, J1, H2, e, I2, T, st2, f2, W, ⟨m0, w0⟩, turn⟩ := h2
  subst e
  intro p
  have gl := fun (kk : Result → Sem PySem.Fin) => gc_loop (k := kk) (c' := .forLoop tg (.ref it) body [] X.env) (l := lv []) (kp := []) (p := p) gc rfl rfl
  have stat : ∀ {H' : Hp} (acc : Array Value) (cc : Nat), (∀ b ∈ fp, H' b = none) → ∀ b ∈ fp, FpOk X ((S, lstObj acc cc) :: ip) H' b := fun {H'} acc cc hn b hb => by
    obtain ⟨_, a1, a2, a3, a4, a5⟩ := f2 b hb
    refine ⟨hn b hb, a1, a2, a3, a4, fun q hq => ?_⟩
    rcases List.mem_append.mp hq with hq | hq
    · exact a5 q (List.mem_append_left _ hq)
    · rcases List.mem_cons.mp hq with hq | hq
      · rw [hq]
        exact a5 (S, lstObj acc0 cc0) (List.mem_append_right _ (List.mem_cons_self ..))
      · exact a5 q (List.mem_append_right _ (List.mem_cons_of_mem _ hq))
  have loop : ∀ (m n : Nat) (ys : List V) (s₀ s : Shared) (i : Nat) (σ : St) (H : Hp), n + ys.length = sizeLine → W i m ys σ H → GI X S ip ys σ H s → tn i s.heap → (∀ b ∈ fp, H b = none) →
      Seg (model X.prog X.w) A R (GY X S) n s₀ (.forLoop tg (.ref it) body [] X.env) ((model X.prog X.w).den (.forLoop tg (.ref it) body [] X.env))
        (.ret (fun r => ((match r with | .ok f => (.pure f : Sem Flow) | .error e => .raise e).onRaise (cameBack X.env)).wrap K J gd lv) none (gd false) (lv []) c p [] :: fs) s := by
    intro m
    induction m using Nat.strongRecOn with
    | ind m ih =>
      intro n ys s₀ s i σ H hn w hI st hf
      have ee : ∀ (n : Nat) (s₀ : Shared) (x : Value) (s' : Shared), X.xe x s' → Seg (model X.prog X.w) A R (GY X S) n s₀ (.forLoop tg (.ref it) body [] X.env) (notedX X.env x)
          (.ret (fun r => ((match r with | .ok f => (.pure f : Sem Flow) | .error e => .raise e).onRaise (cameBack X.env)).wrap K J gd lv) none (gd false) (lv []) c p [] :: fs) s' := fun n s₀ x s' hx => by
        refine seg_wrap ?_
        rw [(gl _).over]
        refine wpAny_bind (wpAny_mono (hp x s' hx) (fun _ s'' hcb => wpAny_theTreesLotGoes ?_) fun y s'' hcb => ?_)
        · exact seg_leaf (.error x) (seg_cameBack gc k hcb)
        · exact seg_leaf (.error y) (seg_cameBack gc k hcb)
      refine seg_forLoopY rfl ?_
      rw [(gl _).over]
      obtain ⟨acc, cc, r, I⟩ := hI
      rcases turn i m ys σ H w with ⟨stop, qn⟩ | ⟨go, N, hN, step⟩
      · refine wpAny_mono (T.done X rfl rfl rfl hc i _ s σ H _ I (stat acc cc hf) st stop) (fun r4 s4 ⟨hr, I4⟩ => ?_) fun _ _ z => z
        subst hr
        exact seg_leaf (.ok .next) (k.ok n ys s₀ s4 .next hn ⟨σ, H, ⟨acc, cc, r, I4⟩, qn⟩)
      · refine wpAny_mono (T.item X rfl rfl rfl hc i _ s σ H _ I (stat acc cc hf) st go) (fun r4 s4 ⟨u, hr, h4⟩ => ?_) fun _ _ z => z
        subst hr
        refine wpAny_mono h4 (fun _ s5 ⟨x, H5, I5, r5, y5, st5, fr5⟩ => ?_) fun _ _ z => z
        have I5' := I5.pinned (stat acc cc fr5) (T.obj _ _ st5)
        refine wpAny_mono (hg.run _ s5 σ H5 x u _ I5' r5 (step x H5 y5)) (fun _ s6 ⟨σ6, H6, I6, q6⟩ => ?_) fun x s' hx => ee n s₀ x s' hx
        have gc2 := gl (fun r => ((match r with | .ok f => (.pure f : Sem Flow) | .error e => .raise e).onRaise (cameBack X.env)).wrap K J gd lv)
        have gc3 : GC X S (ip ++ pinsAt fp s5.heap) A (.forLoop tg (.ref it) body [] X.env) (.ret (fun r => ((match r with | .ok f => (.pure f : Sem Flow) | .error e => .raise e).onRaise (cameBack X.env)).wrap K J gd lv) none (gd false) (lv []) c p [] :: fs) id :=
          ⟨gc2.pn, fun q hq => (List.mem_append.mp hq).elim (fun z => gc2.ip q z) fun z => by
            obtain ⟨hb1, _⟩ := of_pinsAt z
            have := (stat acc cc fr5 q.1 hb1).2.2.2.2.2 (S, lstObj acc cc) (List.mem_append_right _ (List.mem_cons_self ..))
            exact Ne.symm this, gc2.apart, gc2.over, gc2.split, gc2.guard, gc2.gd⟩
        have again : ∀ {n' : Nat} {ys' : List V} {s₀' s7 : Shared} {σ7 : St} {H7 : Hp}, n' + ys'.length = sizeLine → GI X S (ip ++ pinsAt fp s5.heap) ys' σ7 H7 s7 → N ys' σ7 H7 →
            Seg (model X.prog X.w) A R (GY X S) n' s₀' (.forLoop tg (.ref it) body [] X.env) (.pure (.again (.forLoop tg (.ref it) body [] X.env)))
              (.ret (fun r => ((match r with | .ok f => (.pure f : Sem Flow) | .error e => .raise e).onRaise (cameBack X.env)).wrap K J gd lv) none (gd false) (lv []) c p [] :: fs) s7 := fun {n' ys' s₀' s7 σ7 H7} hn' I7 n7 => by
          obtain ⟨m', hm, w7⟩ := hN ys' σ7 H7 n7
          have I7c := I7
          obtain ⟨acc7, cc7, r7, J7⟩ := I7c
          refine seg_again rfl (ih m' hm n' ys' s₀' s7 (i + 1) σ7 H7 hn' w7 (gi_unip I7) (T.keep _ _ _ st5 fun b hb o e => (J7.pin (b, o) (List.mem_append_right _ (List.mem_cons_of_mem _ (List.mem_append_right _ (mem_pinsAt hb e))))).1) fun b hb => ?_)
          obtain ⟨o, e, d⟩ := T.obj _ _ st5 b hb
          exact (J7.pin (b, o) (List.mem_append_right _ (List.mem_cons_of_mem _ (List.mem_append_right _ (mem_pinsAt hb e))))).2.1
        refine hb.run A S (ip ++ pinsAt fp s5.heap) R n ys s₀ _ _ _ _ id id s6 σ6 H6 { D with nx := N, ct := N, bk := D.nx } gc3 hn ⟨fun n' ys' s₀' s7 f hn' hs => ?_, fun n' s₀' x s7 hx => ee n' s₀' x s7 hx⟩ ⟨acc, cc, r, I6⟩ q6
        cases f with
        | next =>
          obtain ⟨σ7, H7, I7, n7⟩ := hs
          exact again hn' I7 n7
        | cont =>
          obtain ⟨σ7, H7, I7, n7⟩ := hs
          exact again hn' I7 n7
        | brk =>
          obtain ⟨σ7, H7, I7, q7⟩ := hs
          exact seg_leaf (.ok .next) (k.ok n' ys' s₀' s7 .next hn' ⟨σ7, H7, gi_unip I7, q7⟩)
        | ret v =>
          obtain ⟨x7, σ7, H7, I7, r7, q7⟩ := hs
          exact seg_leaf (.ok (.ret v)) (k.ok n' ys' s₀' s7 (.ret v) hn' ⟨x7, σ7, H7, gi_unip I7, r7, q7⟩)
  exact loop m0 n ys s₀ s2 0 σ H2 hn0 w0 ⟨acc0, cc0, r0, I2⟩ st2 fun b hb => (f2 b hb).1
end
end L2
namespace L2
open PySem PySem.Spec PyProof.Rows GenW
theorem gfor_list {K : PySem.W.Frag} {a : Addr} {xs : List V} {g : TG} {tb : TGn} {D : GEnds} {ys : List V} {σ : St} {H : Hp} (Pv : Nat → List V → St → Hp → Prop) (h0 : Pv 0 ys σ H) (hl : ∀ i ys σ H, i ≤ xs.length → Pv i ys σ H → SqL K H a xs)
    (hs : ∀ i x ys σ H, xs[i]? = some x → Pv i ys σ H → g x σ H fun σ2 H2 => tb { D with nx := Pv (i + 1), ct := Pv (i + 1), bk := D.nx } ys σ2 H2) (hd : ∀ ys σ H, Pv xs.length ys σ H → D.nx ys σ H) :
    ∃ W : Nat → Nat → List V → St → Hp → Prop, (∃ m, W 0 m ys σ H) ∧ ∀ i m ys σ H, W i m ys σ H →
      ((Itl K a).stop i H ∧ D.nx ys σ H) ∨ ((Itl K a).go i H ∧ ∃ N : List V → St → Hp → Prop, (∀ ys' σ' H', N ys' σ' H' → ∃ m', m' < m ∧ W (i + 1) m' ys' σ' H') ∧ ∀ x H', (Itl K a).yld i H x H' → g x σ H' fun σ2 H2 => tb { D with nx := N, ct := N, bk := D.nx } ys σ2 H2) := by
  refine ⟨fun i m ys σ H => m = xs.length - i ∧ i ≤ xs.length ∧ Pv i ys σ H, ⟨xs.length, by simp, Nat.zero_le _, h0⟩, ?_⟩
  rintro i m ys σ H ⟨rfl, hi, p⟩
  have q := hl i ys σ H hi p
  by_cases hlt : i < xs.length
  · refine .inr ⟨⟨xs, xs[i], q, List.getElem?_eq_getElem hlt⟩, Pv (i + 1), fun ys' σ' H' p' => ⟨xs.length - (i + 1), by omega, rfl, hlt, p'⟩, ?_⟩
    rintro x H' ⟨rfl, hx⟩
    exact hs i x ys σ _ (hx xs q) p
  · have e : i = xs.length := by omega
    subst e
    exact .inl ⟨⟨xs, q, Nat.le_refl _⟩, hd ys σ H p⟩
end L2
namespace Rp
open PySem PySem.Spec PyProof.Rows L2
section
variable {P : Program} {w : World} {K : PySem.W.Frag} {mg : Str → Option Value} {base : Heap} {T : Cl}
theorem hg_h_newest : GScope H_h_newest ["self", "count"] (defScope h_h_newest) where
  kind := by kernel_rfl
  co := by kernel_rfl
  gen := by kernel_rfl
  nd := by decide +kernel
  pre := by kernel_rfl
  par := by decide +kernel
  nofree := by decide +kernel
def spNewest (K : PySem.W.Frag) : SpG := fun vs H Q _ => ∃ h lr kept, vs = [.ref h, .int (kept.length : Nat)] ∧ HisS K H h lr kept ∧ kept.length ≤ 1000 ∧ ∀ H', Same H H' → Q (kept.reverse.map txV) H'
theorem ok_newest (W : HW P w K mg base T) : ∃ fd, GFn P w K mg base 34 (He.fAd K ("History", some "newest")) fd ["self", "count"] (spNewest K) ∧ Binds K fd ["self", "count"] [] := by
  obtain ⟨fd, D⟩ := W.hd e_h_newest (List.mem_of_getElem? (i := 19) rfl)
  have bd : Binds K fd ["self", "count"] [] := D.bindsN (fun _ _ _ _ _ _ us hl => match us, hl with | [_, _], _ => by kernel_rfl)
  obtain ⟨oc, od, dV, kV, doc, pm, an, cdv, ct, osl, rfl, lk, hcd, hD, hK⟩ := D.ex
  have nd := hg_h_newest.nd
  refine ⟨_, gfn_of (k := 33) (sp := spNewest K) lk hcd hg_h_newest (fun vs H Q E h => ?_) (fun A outer s H vs Q E pn hr h => ⟨_, gss_cons (gs_ps (ps_if (pt_not (pt_val (pe_pu W (hr.mono (by decide)) rfl rfl (pa_cons (pv 1) (pa_cons pe_int pa_nil))))) pss_never pss_nil))
      (gss_cons (gs_for owns_gcx rfl (pi_list (pe_slice sl_list (pe_revL (pe_fld (pv 0) rfl)) po_none (po_some (pv 1)))) (pg_name (i := 2) nd rfl (Or.inl rfl)) (gss_cons (gs_yield (pv 2)) gss_nil)) gss_nil), ?_⟩), bd⟩
  · obtain ⟨h, lr, kept, rfl, _⟩ := h
    rfl
  · obtain ⟨h, lr, kept, rfl, hS, hk, hQ⟩ := h
    obtain ⟨dx, h1, h2⟩ := hS
    refine ⟨_, rfl, [.int (kept.length : Nat), .int 0], .bl true, .cons (.int _) (.cons (.int _) .nil), count_ok 29 (by omega), fun v H1 s1 r1 => ⟨true, rep_bl r1, iteF ?_⟩⟩
    refine ⟨_, rfl, h, _, dx, _, _, rfl, s1 _ _ h1, W.cl (by decide), W.na (by decide), rfl, lr, _, rfl, SqL.of (s1 _ _ h2), fun p hp => ?_⟩
    have sp := same_new (o := .lst (kept.map txV).reverse) hp
    unfold tNoPart
    refine ⟨_, rfl, _, rfl, p, _, rfl, SqL.of upd_same, fun q hq => ?_⟩
    have hcut : cutV (kept.map txV).reverse none (some ((kept.length : Nat) : Int)) = kept.reverse.map txV := by
      rw [cut_to (by rw [List.length_reverse, List.length_map]; exact Nat.le_refl _), List.take_of_length_le (by rw [List.length_reverse, List.length_map]; exact Nat.le_refl _), List.map_reverse]
    rw [hcut]
    have sq := same_new (o := .lst (kept.reverse.map txV)) hq
    have sm := s1.trans (sp.trans sq)
    have e0 : L2.start H_h_newest [.ref h, .int (kept.length : Nat)] = [some (.ref h), some (.int (kept.length : Nat)), none] := rfl
    refine ⟨q, rfl, ⟨_, SqL.of upd_same⟩, gfor_list (xs := kept.reverse.map txV) (fun i ys σ' H' => ys = (kept.reverse.map txV).take i ∧ σ'.length = 3 ∧ upd (upd H1 p (.lst (kept.map txV).reverse)) q (.lst (kept.reverse.map txV)) = H') ⟨rfl, by rw [e0]; rfl, rfl⟩ (fun i ys σ' H' _ hp => by obtain ⟨_, _, rfl⟩ := hp; exact SqL.of upd_same) (fun i x ys σ' H' hx hp => ?_) fun ys σ' H' hp => ?_⟩
    · obtain ⟨rfl, hl, rfl⟩ := hp
      refine ⟨by rw [List.length_take, List.length_map, List.length_reverse, sizeLine_eq]; omega, x, ?_, ?_⟩
      · show (σ'.set 2 (some x))[2]? = some (some x)
        rw [List.getElem?_set_self (by omega)]
      · refine ⟨?_, by rw [List.length_set]; exact hl, rfl⟩
        rw [List.take_add_one, hx]
        rfl
    · obtain ⟨rfl, _, rfl⟩ := hp
      rw [List.take_length]
      exact hQ _ sm
end
end Rp
namespace Rp
open PySem PySem.Spec PyProof.Rows L2
section
variable {X : Cx} {CX : CXT} {k : Nat} {f C : Addr} {sp : Sp} {E : XK} {x : Str} {p pos : Pos}
theorem pe_makeN (M : Mk X.K C f) (F : FnR X.prog X.w X.K X.mg X.base CX k f sp) (hr : Room (k + 1) X.A) (hg : Gl X x) (hm : X.mg x = some (.ref C)) (hx : Passes CX X E) (hdb : (x == ("__debug__" : Str)) = false := by decide) :
    PE X (.Call (.Name x p) [] [] pos) (StX.tMakeR C sp E tNil) := by
  refine ⟨fun pins s σ H Q I h => ?_⟩
  refine wpAny_Call_Name_kw (ld_glob I hg hm ?_ hdb)
  exact PySem.W.callWith_K0 I.kIn M.kp (StX.run_makeR (us := []) (vs := []) M F hr hx I .nil h)
end
section
variable {P : Program} {w : World} {K : PySem.W.Frag} {mg : Str → Option Value} {base : Heap} {T : Cl}
theorem noLD_spot (r : Sum LS (Nat × Nat)) : noLD (spotD r) = true := by cases r <;> rfl
theorem BufS.kp (W : HW P w K mg base T) {H H' : Hp} {b ll : Addr} {js : List Nat} {fp : List Addr} (h : BufS K T H b ll js) (k : Kp fp H H') (n1 : b ∉ fp) (n2 : ll ∉ fp) (al : ∀ x ∈ fp, ∀ o, H x = some o → Alien T o) : BufS K T H' b ll js := by
  obtain ⟨dx, tp, lt, sv, wk, tot, lv, h1, h2, h3, h4, h5, h6⟩ := h.ex
  exact ⟨⟨dx, tp, lt, sv, wk, tot, lv, k _ _ h1 n1, kp_rd k al h2, kp_rd k al h3, k _ _ h4 n2, RepL.kp W.tat k al h5 (noLDs_opt _), Rep.kp W.tat k al h6 (noLD_spot _)⟩, h.ok, h.len⟩
theorem ConS.same {H H' : Hp} {c hi lr b ll : Addr} {js : List Nat} {kept : List (List Ch)} {n : Int} (h : ConS K T H c hi lr b ll js kept n) (s : Same H H') : ConS K T H' c hi lr b ll js kept n := by
  obtain ⟨⟨dx, h1⟩, h2, h3, h4⟩ := h
  exact ⟨⟨dx, s _ _ h1⟩, h2.same s, h3.same s, h4⟩
def keptA (js : List Nat) (kept : List (List Ch)) : List (List Ch) := if verdR (runS s0 js) = tComplete then addK kept (textS js) else kept
def cntA (js : List Nat) (n : Int) : Int := if verdR (runS s0 js) = tComplete then n + 1 else n
abbrev conPost (K : PySem.W.Frag) (T : Cl) (c hi lr b ll : Addr) (H : Hp) (js : List Nat) (kept : List (List Ch)) (n : Int) (Q : VK) : Prop :=
  ∀ H' b' ll', Kp [c, lr, b] H H' → (b' = b ∨ H b' = none) → (ll' = ll ∨ H ll' = none) → ConS K T H' c hi lr b' ll' (waitS js) (keptA js kept) (cntA js n) → Q (.str (toS (verdR (runS s0 js)))) H'
theorem kp_none {fp : List Addr} {H H' : Hp} {x : Addr} (k : Kp fp H H') (ne : ∀ y ∈ fp, H' y ≠ none) (h : H' x = none) : H x = none := by
  cases e : H x with
  | none => rfl
  | some o =>
    by_cases hx : x ∈ fp
    · exact absurd h (ne x hx)
    · rw [k _ _ e hx] at h
      cases h
theorem new_buffer (W : HW P w K mg base T) {H Hx : Hp} {c hi lr b ll dx : Addr} {js : List Nat} {kept : List (List Ch)} {m : Int} (k4 : Kp [c, lr] H Hx) (hC : ConS K T Hx c hi lr b ll js kept m)
    (h1 : Hx c = some (.ins (cAd K "Console") dx [("shelf", .ref hi), ("open_buffer", .ref b), ("finished", .int m)])) {x dx2 ll5 : Addr} {H5 : Hp} (hx : Hx x = none) (hdx : Hx dx2 = none)
    (k5 : Kp [x] (upd (upd Hx dx2 (.own x)) x (.ins (cAd K "Buffer") dx2 [])) H5) (hl5 : upd (upd Hx dx2 (.own x)) x (.ins (cAd K "Buffer") dx2 []) ll5 = none) (hB5 : BufS K T H5 x ll5 []) :
    H5 c = some (.ins (cAd K "Console") dx [("shelf", .ref hi), ("open_buffer", .ref b), ("finished", .int m)]) ∧ Kp [c, lr] H (upd H5 c (.ins (cAd K "Console") dx [("shelf", .ref hi), ("open_buffer", .ref x), ("finished", .int m)])) ∧ H x = none ∧ H ll5 = none ∧
      ConS K T (upd H5 c (.ins (cAd K "Console") dx [("shelf", .ref hi), ("open_buffer", .ref x), ("finished", .int m)])) c hi lr x ll5 [] kept m := by
  obtain ⟨_, ⟨dxh, g1, g2⟩, hB, hnd⟩ := hC
  have sx : ∀ y o, Hx y = some o → H5 y = some o := fun y o e => by
    have y1 : y ≠ x := fun z => by rw [z, hx] at e; cases e
    have y2 : y ≠ dx2 := fun z => by rw [z, hdx] at e; cases e
    exact k5 y o (by rw [upd_ne y1, upd_ne y2]; exact e) fun z => y1 (List.mem_singleton.mp z)
  have ne4 : ∀ y ∈ [c, lr], Hx y ≠ none := fun y hy => by
    rcases List.mem_cons.mp hy with rfl | hy
    · rw [h1]; intro z; cases z
    · rw [List.mem_singleton.mp hy, g2]; intro z; cases z
  have l1 : ll5 ≠ x := fun z => by rw [z, upd_same] at hl5; cases hl5
  have l2 : ll5 ≠ dx2 := fun z => by rw [upd_ne l1, z, upd_same] at hl5; cases hl5
  have l3 : Hx ll5 = none := by rw [upd_ne l1, upd_ne l2] at hl5; exact hl5
  have nn : ∀ y o, Hx y = some o → y ≠ x ∧ y ≠ ll5 := fun y o e => ⟨fun z => (by rw [z, hx] at e; cases e), fun z => (by rw [z, l3] at e; cases e)⟩
  obtain ⟨cx, cl⟩ := nn _ _ h1
  obtain ⟨hix, hil⟩ := nn _ _ g1
  obtain ⟨lx, lll⟩ := nn _ _ g2
  have hch : c ≠ hi := by
    intro z
    rw [z] at hnd
    exact absurd (List.mem_cons_self ..) (List.nodup_cons.mp hnd).1
  have hcl : c ≠ lr := by
    intro z
    rw [z] at hnd
    exact absurd (List.mem_cons_of_mem _ (List.mem_cons_self ..)) (List.nodup_cons.mp hnd).1
  have hhl : hi ≠ lr := by
    intro z
    rw [z] at hnd
    exact absurd (List.mem_cons_self ..) (List.nodup_cons.mp (List.nodup_cons.mp hnd).2).1
  refine ⟨sx _ _ h1, ?_, kp_none k4 ne4 hx, kp_none k4 ne4 l3, ⟨⟨dx, upd_same⟩, ⟨dxh, ?_, ?_⟩, ?_, ?_⟩⟩
  · exact Kp.upd (fun y o e hy => sx _ _ (k4 y o e hy)) (List.mem_cons_self ..)
  · rw [upd_ne (Ne.symm hch)]; exact sx _ _ g1
  · rw [upd_ne (Ne.symm hcl)]; exact sx _ _ g2
  · refine BufS.kp W hB5 (fp := [c]) (Kp.upd (Kp.refl _ _) (List.mem_cons_self ..)) (fun z => cx (List.mem_singleton.mp z).symm) (fun z => cl (List.mem_singleton.mp z).symm) fun y hy o e => ?_
    rw [List.mem_singleton.mp hy, sx _ _ h1] at e
    cases e
    exact W.apart "Console" (by decide)
  · simp only [List.nodup_cons, List.mem_cons, List.not_mem_nil, or_false, not_or, List.nodup_nil, not_false_eq_true, and_true]
    exact ⟨⟨hch, hcl, cx, cl⟩, ⟨hhl, hix, hil⟩, ⟨lx, lll⟩, Ne.symm l1⟩
theorem eq_complete (r : List Ch) : decide (V.str (toS r) = V.str "complete") = decide (r = tComplete) := by
  have e : ("complete" : Str) = toS tComplete := by decide +kernel
  rw [e]
  exact decide_eq_decide.mpr ⟨fun z => toS_inj (V.str.inj z), fun z => by rw [z]⟩
theorem in_ce (r : Sum LS (Nat × Nat)) : inD (.str (verdR r)) (.tup [.str tComplete, .str tEmpty]) = some (decide (verdR r = tComplete ∨ verdR r = tEmpty)) := by
  rcases verdR_cases r with z | z | z | z <;> rw [z] <;> decide +kernel
theorem rep_ce {H : Hp} : Rep K T H (.str "complete") (.str tComplete) ∧ Rep K T H (.str "empty") (.str tEmpty) := by
  rw [show ("complete" : Str) = toS tComplete from by decide +kernel, show ("empty" : Str) = toS tEmpty from by decide +kernel]
  exact ⟨.str _, .str _⟩
def spSettled (K : PySem.W.Frag) (T : Cl) : Sp := fun vs H Q _ => ∃ c hi lr b ll js kept n, vs = [.ref c, .str (toS (verdR (runS s0 js)))] ∧ ConS K T H c hi lr b ll js kept n ∧ kept.length < 100 ∧ conPost K T c hi lr b ll H js kept n Q
theorem ok_settled (W : HW P w K mg base T) : FnR P w K mg base CX0 36 (He.fAd K ("Console", some "settled")) (spSettled K T) := by
  obtain ⟨pt_, hpt⟩ := prop_of W (c := "Buffer") (f := "text") (by decide)
  obtain ⟨fdt, Ft, Bt⟩ := ok_b_text W
  have nd := hc_c_settled.nd
  refine hand_R (hand_fn (d := e_c_settled) (W.hd _ (List.mem_of_getElem? (i := 21) rfl)) rfl rfl hc_c_settled (fun vs H Q E h => ?_) (fun _ _ _ _ _ _ us hl => match us, hl with | [_, _], _ => by kernel_rfl)
    fun cdv A outer s H vs Q E hr h => ⟨_, PSs.nox (
      pss_cons (ps_if (pt_cmpR op_eq (pv 1) pe_str (nomark _))
        (pss_cons (ps_expr (pe_methR (E := E0) rfl rfl (by decide) (pe_fld (pv 0) rfl) (W.cl (c := "History") (by decide)) (meth_of W (by decide)) (ok_h_add W) (hr.mono (by decide)) pass0 (pa_cons (pe_prop (CX := CX0) (E := E0) (pe_fld (pv 0) rfl) (W.cl (c := "Buffer") (by decide)) hpt Ft (hr.mono (by decide)) Bt .nil pass0 rfl) pa_nil) rfl))
        (pss_one (ps_fldaug (pv 0) pe_int in_add))) pss_nil)
      (pss_cons (ps_if (pt_cmpR (op_inD (T := T)) (pv 1) (pe_tup (pa_cons pe_str (pa_cons pe_str pa_nil))) rfl)
        (pss_one (ps_fld (pv 0) (pe_makeN (E := E0) (W.mk_ _ (by decide)) (ok_b_init W) (hr.mono (by decide)) rfl (W.mgc _ (by decide)) pass0) rfl)) pss_nil)
      (pss_one (ps_ret (pv 1))))), ?_⟩)
  · obtain ⟨c, hi, lr, b, ll, js, kept, n, rfl, _⟩ := h
    rfl
  · obtain ⟨c, hi, lr, b, ll, js, kept, n, rfl, hC, hk, hQ⟩ := h
    obtain ⟨⟨dx, h1⟩, hH, hB, hnd⟩ := hC
    refine ⟨_, rfl, rfl, _, rfl, ?_⟩
    have e1 := eq_complete (verdR (runS s0 js))
    rw [e1]
    obtain ⟨dxh, g1, g2⟩ := id hH
    obtain ⟨dxb, tp, lt, sv, wk, tot, lv, hb1, _⟩ := hB.ex
    have sub_clb : ∀ y ∈ [c, lr], y ∈ [c, lr, b] := fun y hy => by
      rcases List.mem_cons.mp hy with rfl | hy
      · exact List.mem_cons_self ..
      · rw [List.mem_singleton.mp hy]; exact List.mem_cons_of_mem _ (List.mem_cons_self ..)
    have hnd2 := hnd
    simp only [List.nodup_cons, List.mem_cons, List.not_mem_nil, or_false, not_or, List.nodup_nil, not_false_eq_true, and_true] at hnd2
    obtain ⟨⟨hch, hcl, hcb, hcll⟩, ⟨hhl, hhb, hhll⟩, ⟨hlb, hlll⟩, hbll⟩ := hnd2
    by_cases hc : verdR (runS s0 js) = tComplete
    · rw [decide_eq_true hc]
      refine iteT ?_
      have ek : keptA js kept = addK kept (textS js) := if_pos hc
      have ec : cntA js n = n + 1 := if_pos hc
      refine ⟨_, rfl, c, _, dx, _, _, rfl, h1, W.cl (by decide), W.na (by decide), rfl, hi, dxh, _, rfl, g1, rfl, ?_⟩
      refine ⟨_, rfl, c, _, dx, _, _, rfl, h1, W.cl (by decide), W.na (by decide), rfl, b, dxb, _, rfl, hb1, b, ll, js, rfl, hB, fun v H2 s2 e2 => ?_⟩
      subst e2
      refine ⟨hi, lr, kept, js, rfl, hH.same s2, hB.ok, hB.len, hc, hk, hhl, fun H3 k3 hS3 => ?_⟩
      have h3 := k3 _ _ (s2 _ _ h1) fun z => hcl (List.mem_singleton.mp z)
      refine ⟨_, rfl, c, _, dx, _, _, rfl, h3, W.cl (by decide), W.na (by decide), rfl, ?_⟩
      refine ⟨_, _, rfl, rfl, dx, _, h3, (show (3:Nat) < 1000 by decide), ?_⟩
      have hal : ∀ y ∈ [lr], ∀ o, H2 y = some o → Alien T o := fun y hy o e => by
        rw [List.mem_singleton.mp hy, s2 _ _ g2] at e
        cases e
        trivial
      have hal3 : ∀ y ∈ [c], ∀ o, H3 y = some o → Alien T o := fun y hy o e => by
        rw [List.mem_singleton.mp hy, h3] at e
        cases e
        exact W.apart "Console" (by decide)
      have hB3 : BufS K T H3 b ll js := (hB.same s2).kp W k3 (fun z => hlb (List.mem_singleton.mp z).symm) (fun z => hlll (List.mem_singleton.mp z).symm) hal
      have k4 : Kp [c, lr] H (upd H3 c (.ins (cAd K "Console") dx [("shelf", .ref hi), ("open_buffer", .ref b), ("finished", .int (n + 1))])) := Kp.upd (fun y o e hy => k3 y o (s2 _ _ e) fun z => hy (List.mem_cons_of_mem _ z)) (List.mem_cons_self ..)
      have u4 : Kp [c] H3 (upd H3 c (.ins (cAd K "Console") dx [("shelf", .ref hi), ("open_buffer", .ref b), ("finished", .int (n + 1))])) := Kp.upd (Kp.refl _ _) (List.mem_cons_self ..)
      have hC4 : ConS K T (upd H3 c (.ins (cAd K "Console") dx [("shelf", .ref hi), ("open_buffer", .ref b), ("finished", .int (n + 1))])) c hi lr b ll js (addK kept (textS js)) (n + 1) :=
        ⟨⟨dx, upd_same⟩, hS3.kp u4 (fun z => hch (List.mem_singleton.mp z).symm) (fun z => hcl (List.mem_singleton.mp z).symm), hB3.kp W u4 (fun z => hcb (List.mem_singleton.mp z).symm) (fun z => hcll (List.mem_singleton.mp z).symm) hal3, hnd⟩
      refine ⟨_, rfl, by show 2 ≤ sizeLine; decide, fun t ht => ?_⟩
      have st := same_new (o := .tup [.str "complete", .str "empty"]) ht
      have hC5 := (hC4).same st
      have k5 := (k4).same st
      refine ⟨.str (verdR (runS s0 js)), .tup [.str tComplete, .str tEmpty], _, .str _, .tup (SqT.of upd_same) (.cons rep_ce.1 (.cons rep_ce.2 .nil)), rfl, in_ce _, _, rfl, ?_⟩
      have hw : verdR (runS s0 js) = tComplete ∨ verdR (runS s0 js) = tEmpty := .inl hc
      rw [decide_eq_true hw]
      refine iteT ?_
      intro x dx2 hx hdx hne
      refine ⟨x, dx2, rfl, upd_same, fun H5 ll5 kp5 hl5 hB5 => ⟨rfl, ?_⟩⟩
      obtain ⟨i1, i2, i3, i4, i5⟩ := new_buffer W k5 hC5 (st _ _ upd_same) hx hdx kp5 hl5 hB5
      refine ⟨_, rfl, c, _, dx, _, rfl, i1, W.cl (by decide), W.na (by decide), (show (3:Nat) < 1000 by decide), _, rfl, ?_⟩
      have ew : waitS js = [] := if_pos hw
      refine hQ _ x ll5 (i2.wk fun y hy => ?_) (.inr i3) (.inr i4) ?_
      · exact sub_clb y hy
      · rw [ew, ek, ec]
        exact i5
    · rw [decide_eq_false hc]
      refine iteF ?_
      have ek : keptA js kept = kept := if_neg hc
      have ec : cntA js n = n := if_neg hc
      have hC4 : ConS K T H c hi lr b ll js kept n := ⟨⟨dx, h1⟩, hH, hB, hnd⟩
      have k4 : Kp [c, lr] H H := Kp.refl _ _
      refine ⟨_, rfl, by show 2 ≤ sizeLine; decide, fun t ht => ?_⟩
      have st := same_new (o := .tup [.str "complete", .str "empty"]) ht
      have hC5 := (hC4).same st
      have k5 := (k4).same st
      refine ⟨.str (verdR (runS s0 js)), .tup [.str tComplete, .str tEmpty], _, .str _, .tup (SqT.of upd_same) (.cons rep_ce.1 (.cons rep_ce.2 .nil)), rfl, in_ce _, _, rfl, ?_⟩
      by_cases hw : verdR (runS s0 js) = tComplete ∨ verdR (runS s0 js) = tEmpty
      · rw [decide_eq_true hw]
        refine iteT ?_
        intro x dx2 hx hdx hne
        refine ⟨x, dx2, rfl, upd_same, fun H5 ll5 kp5 hl5 hB5 => ⟨rfl, ?_⟩⟩
        obtain ⟨i1, i2, i3, i4, i5⟩ := new_buffer W k5 hC5 (st _ _ h1) hx hdx kp5 hl5 hB5
        refine ⟨_, rfl, c, _, dx, _, rfl, i1, W.cl (by decide), W.na (by decide), (show (3:Nat) < 1000 by decide), _, rfl, ?_⟩
        have ew : waitS js = [] := if_pos hw
        refine hQ _ x ll5 (i2.wk fun y hy => ?_) (.inr i3) (.inr i4) ?_
        · exact sub_clb y hy
        · rw [ew, ek, ec]
          exact i5
      · rw [decide_eq_false hw]
        refine iteF ?_
        have ew : waitS js = js := if_neg hw
        refine ⟨_, rfl, hQ _ b ll (k5.wk fun y hy => sub_clb y hy) (.inl rfl) (.inl rfl) ?_⟩
        rw [ew, ek, ec]
        exact hC5
end
end Rp
namespace Rp
open PySem PySem.Spec PyProof.Rows L2
section
variable {P : Program} {w : World} {K : PySem.W.Frag} {mg : Str → Option Value} {base : Heap} {T : Cl}
theorem after_buf {H H' : Hp} {c hi lr b ll ll' : Addr} {js js' : List Nat} {kept : List (List Ch)} {n : Int} (hC : ConS K T H c hi lr b ll js kept n) (k : Kp [b] H H') (hl : H ll' = none) (hB : BufS K T H' b ll' js') : ConS K T H' c hi lr b ll' js' kept n := by
  obtain ⟨n1, n2, n3, n4, n5⟩ := hC.ne
  obtain ⟨⟨dx, h1⟩, hH, hB0, hnd⟩ := hC
  simp only [List.nodup_cons, List.mem_cons, List.not_mem_nil, or_false, not_or, List.nodup_nil, not_false_eq_true, and_true] at hnd
  obtain ⟨⟨hch, hcl, hcb, hcll⟩, ⟨hhl, hhb, hhll⟩, ⟨hlb, hlll⟩, hbll⟩ := hnd
  have f : ∀ y, H y ≠ none → y ≠ ll' := fun y hy z => hy (by rw [z]; exact hl)
  refine ⟨⟨dx, k _ _ h1 fun z => hcb (List.mem_singleton.mp z)⟩, hH.kp k (fun z => hhb (List.mem_singleton.mp z)) (fun z => hlb (List.mem_singleton.mp z)), hB, ?_⟩
  simp only [List.nodup_cons, List.mem_cons, List.not_mem_nil, or_false, not_or, List.nodup_nil, not_false_eq_true, and_true]
  exact ⟨⟨hch, hcl, hcb, f _ n1⟩, ⟨hhl, hhb, f _ n2⟩, ⟨hlb, f _ n3⟩, f _ n4⟩
theorem post_buf {H H' : Hp} {c hi lr b ll ll' : Addr} {js' : List Nat} {kept : List (List Ch)} {n : Int} {Q : VK} (k : Kp [b] H H') (hl : H ll' = none) (hB : BufS K T H' b ll' js') (hQ : conPost K T c hi lr b ll H js' kept n Q) : conPost K T c hi lr b ll' H' js' kept n Q := by
  intro H2 b2 ll2 k2 e1 e2 hC
  obtain ⟨dxb, tp, lt, sv, wk, tot, lv, hb1, _⟩ := hB.ex
  have hk : ∀ x, H' x = none → H x = none := fun x hx => kp_none k (fun y hy => by rw [List.mem_singleton.mp hy, hb1]; exact fun z => nomatch z) hx
  refine hQ H2 b2 ll2 (fun y o e hy => k2 y o (k y o e fun z => hy ?_) hy) ?_ ?_ hC
  · rw [List.mem_singleton.mp z]
    exact List.mem_cons_of_mem _ (List.mem_cons_of_mem _ (List.mem_cons_self ..))
  · rcases e1 with e1 | e1
    · exact .inl e1
    · exact .inr (hk _ e1)
  · rcases e2 with e2 | e2
    · exact .inr (by rw [e2]; exact hl)
    · exact .inr (hk _ e2)
theorem conPost.same {H H1 : Hp} {c hi lr b ll : Addr} {js : List Nat} {kept : List (List Ch)} {n : Int} {Q : VK} (s : Same H H1) (hQ : conPost K T c hi lr b ll H js kept n Q) : conPost K T c hi lr b ll H1 js kept n Q := by
  have hk : ∀ x, H1 x = none → H x = none := fun x hx => by
    cases e : H x with
    | none => rfl
    | some o => rw [s _ _ e] at hx; cases hx
  exact fun H2 b2 ll2 k2 e1 e2 hC => hQ H2 b2 ll2 (fun y o e hy => k2 y o (s _ _ e) hy) (e1.imp id (hk _)) (e2.imp id (hk _)) hC
theorem bp_of {H : Hp} {c hi lr b ll : Addr} {js js' : List Nat} {kept : List (List Ch)} {n : Int} {Q : VK} {E : XK} (hC : ConS K T H c hi lr b ll js kept n) (hk : kept.length < 100) (hQ : conPost K T c hi lr b ll H js' kept n Q) :
    bufPost K T b H js' fun v H2 => spSettled K T [.ref c, v] H2 Q E := fun H' ll' k hl hB =>
  ⟨c, hi, lr, b, ll', js', kept, n, rfl, after_buf hC k hl hB, hk, post_buf k hl hB hQ⟩
def spFeed (K : PySem.W.Frag) (T : Cl) : Sp := fun vs H Q _ => ∃ c hi lr b ll js kept n j, vs = [.ref c, lnV j] ∧ ConS K T H c hi lr b ll js kept n ∧ kept.length < 100 ∧ j < 27 ∧ js.length < 10 ∧ verdR (runS s0 js) ≠ tWrong ∧ conPost K T c hi lr b ll H (js ++ [j]) kept n Q
theorem ok_feed (W : HW P w K mg base T) : FnR P w K mg base CX0 37 (He.fAd K ("Console", some "feed")) (spFeed K T) := by
  obtain ⟨pv_, hpv⟩ := prop_of W (c := "Buffer") (f := "verdict") (by decide)
  obtain ⟨fdv, Fv, Bv⟩ := ok_b_verdict W
  have nd := hc_c_feed.nd
  refine hand_R (hand_fn (d := e_c_feed) (W.hd _ (List.mem_of_getElem? (i := 22) rfl)) rfl rfl hc_c_feed (fun vs H Q E h => ?_) (fun _ _ _ _ _ _ us hl => match us, hl with | [_, _], _ => by kernel_rfl)
    fun cdv A outer s H vs Q E hr h => ⟨_, PSs.nox (
      pss_cons (ps_if (pt_not (pt_val (pe_pu W (hr.mono (by decide)) rfl rfl (pa_cons (pv 1) pa_nil)))) pss_never pss_nil)
      (pss_cons (ps_if (pt_cmpR op_eq (pe_prop (CX := CX0) (E := E0) (pe_fld (pv 0) rfl) (W.cl (c := "Buffer") (by decide)) hpv Fv (hr.mono (by decide)) Bv .nil pass0 rfl) pe_str (nomark _)) pss_never pss_nil)
      (pss_one (ps_ret (pe_methR (E := E0) rfl rfl (by decide) (pv 0) (W.cl (c := "Console") (by decide)) (meth_of W (by decide)) (ok_settled W) hr pass0
        (pa_cons (pe_methR (E := E0) rfl rfl (by decide) (pe_fld (pv 0) rfl) (W.cl (c := "Buffer") (by decide)) (meth_of W (by decide)) (ok_b_add W) hr pass0 (pa_cons (pv 1) pa_nil) rfl) pa_nil) rfl))))), ?_⟩)
  · obtain ⟨c, hi, lr, b, ll, js, kept, n, j, rfl, _⟩ := h
    rfl
  · obtain ⟨c, hi, lr, b, ll, js, kept, n, j, rfl, hC, hk, hj, hl, hw, hQ⟩ := h
    refine ⟨_, rfl, [.str (lnT j)], .bl true, .cons (.str _) .nil, isLine_ok 28 hj, fun v H1 s1 r1 => ⟨true, rep_bl r1, iteF ?_⟩⟩
    have hC1 := hC.same s1
    have hQ1 := conPost.same s1 hQ
    obtain ⟨⟨dx, h1⟩, hH, hB, hnd⟩ := id hC1
    obtain ⟨dxb, tp, lt, sv, wk, tot, lv, hb1, _⟩ := hB.ex
    refine ⟨_, rfl, c, _, dx, _, _, rfl, h1, W.cl (by decide), W.na (by decide), rfl, b, dxb, _, rfl, hb1, b, ll, js, rfl, hB, fun v2 H2 s2 e2 => ?_⟩
    subst e2
    refine ⟨rfl, _, rfl, ?_⟩
    have e3 : decide (V.str (toS (verdR (runS s0 js))) = V.str "wrong") = false := by
      rw [show ("wrong" : Str) = toS tWrong from by decide +kernel]
      exact decide_eq_false fun z => hw (toS_inj (V.str.inj z))
    rw [e3]
    refine iteF ?_
    have hC2 := hC1.same s2
    have hQ2 := conPost.same s2 hQ1
    refine ⟨_, rfl, c, dx, _, rfl, s2 _ _ h1, rfl, ?_⟩
    refine ⟨_, rfl, c, _, dx, _, _, rfl, s2 _ _ h1, W.cl (by decide), W.na (by decide), rfl, b, dxb, _, rfl, s2 _ _ hb1, rfl, _, rfl, ?_⟩
    exact ⟨b, j, ll, js, rfl, hC2.buf, hj, hl, bp_of (E := E0) hC2 hk hQ2⟩
def spCLine (K : PySem.W.Frag) (T : Cl) : Sp := fun vs H Q _ => ∃ c hi lr b ll js kept n i j, vs = [.ref c, .int (i : Nat), lnV j] ∧ ConS K T H c hi lr b ll js kept n ∧ kept.length < 100 ∧ i < js.length ∧ j < 27 ∧ conPost K T c hi lr b ll H (exch js i 1 [j]) kept n Q
theorem ok_change_line (W : HW P w K mg base T) : FnR P w K mg base CX0 37 (He.fAd K ("Console", some "change_line")) (spCLine K T) := by
  have nd := hc_c_change_line.nd
  refine hand_R (hand_fn (d := e_c_change_line) (W.hd _ (List.mem_of_getElem? (i := 23) rfl)) rfl rfl hc_c_change_line (fun vs H Q E h => ?_) (fun _ _ _ _ _ _ us hl => match us, hl with | [_, _, _], _ => by kernel_rfl)
    fun cdv A outer s H vs Q E hr h => ⟨_, PSs.nox (
      pss_one (ps_ret (pe_methR (E := E0) rfl rfl (by decide) (pv 0) (W.cl (c := "Console") (by decide)) (meth_of W (by decide)) (ok_settled W) hr pass0
        (pa_cons (pe_methR (E := E0) rfl rfl (by decide) (pe_fld (pv 0) rfl) (W.cl (c := "Buffer") (by decide)) (meth_of W (by decide)) (ok_change W) (hr.mono (by decide)) pass0 (pa_cons (pv 1) (pa_cons (pv 2) pa_nil)) rfl) pa_nil) rfl))), ?_⟩)
  · obtain ⟨c, hi, lr, b, ll, js, kept, n, i, j, rfl, _⟩ := h
    rfl
  · obtain ⟨c, hi, lr, b, ll, js, kept, n, i, j, rfl, hC, hk, hi, hj, hQ⟩ := h
    obtain ⟨⟨dx, h1⟩, hH, hB, hnd⟩ := id hC
    obtain ⟨dxb, tp, lt, sv, wk, tot, lv, hb1, _⟩ := hB.ex
    refine ⟨_, rfl, c, dx, _, rfl, h1, rfl, ?_⟩
    refine ⟨_, rfl, c, _, dx, _, _, rfl, h1, W.cl (by decide), W.na (by decide), rfl, b, dxb, _, rfl, hb1, rfl, _, rfl, _, rfl, ?_⟩
    exact ⟨b, i, j, ll, js, rfl, hC.buf, hi, hj, bp_of (E := E0) hC hk hQ⟩
def spCWd (K : PySem.W.Frag) (T : Cl) : Sp := fun vs H Q _ => ∃ c hi lr b ll js kept n, vs = [.ref c, .int 1] ∧ ConS K T H c hi lr b ll js kept n ∧ kept.length < 100 ∧ 0 < js.length ∧ conPost K T c hi lr b ll H js.dropLast kept n Q
theorem ok_c_withdraw (W : HW P w K mg base T) : ∀ j, j ≤ 1 → FnR P w K mg base CX0 37 (He.fAd K ("Console", some "withdraw")) (fun vs H Q E => spCWd K T (vs ++ ([V.int 1] : List V).drop j) H Q E) := by
  have nd := hc_c_withdraw.nd
  refine hand_dfl (d := e_c_withdraw) (n := 1) (k := 36) (sp := spCWd K T) (W.hd _ (List.mem_of_getElem? (i := 24) rfl)) (fun z => nomatch z) rfl rfl hc_c_withdraw (fun vs H Q E h => ?_) (fun j hj T kV doc pm an cdv ct us its h1 h2 => ?_)
    (fun cdv A outer s H vs Q E hr h => ⟨_, PSs.nox (
      pss_one (ps_ret (pe_methR (E := E0) rfl rfl (by decide) (pv 0) (W.cl (c := "Console") (by decide)) (meth_of W (by decide)) (ok_settled W) hr pass0
        (pa_cons (pe_methR (E := E0) rfl rfl (by decide) (pe_fld (pv 0) rfl) (W.cl (c := "Buffer") (by decide)) (meth_of W (by decide)) (ok_b_withdraw W) (hr.mono (by decide)) pass0 (pa_cons (pv 1) pa_nil) rfl) pa_nil) rfl))), ?_⟩)
  · obtain ⟨c, hi, lr, b, ll, js, kept, n, rfl, _⟩ := h
    rfl
  · match its, h2 with
    | [i1], _ =>
      match j, us, h1 with
      | 0, [a], _ => exact ⟨_, rfl, by kernel_rfl⟩
      | 1, [a, b], _ => exact ⟨_, rfl, by kernel_rfl⟩
      | j + 2, _, _ => exact absurd hj (by show ¬ j + 2 ≤ 1; omega)
  · obtain ⟨c, hi, lr, b, ll, js, kept, n, rfl, hC, hk, hj, hQ⟩ := h
    obtain ⟨⟨dx, h1⟩, hH, hB, hnd⟩ := id hC
    obtain ⟨dxb, tp, lt, sv, wk, tot, lv, hb1, _⟩ := hB.ex
    refine ⟨_, rfl, c, dx, _, rfl, h1, rfl, ?_⟩
    refine ⟨_, rfl, c, _, dx, _, _, rfl, h1, W.cl (by decide), W.na (by decide), rfl, b, dxb, _, rfl, hb1, rfl, _, rfl, ?_⟩
    exact ⟨b, ll, js, rfl, hC.buf, hj, bp_of (E := E0) hC hk hQ⟩
end
end Rp
namespace Rp
open PySem PySem.Spec PyProof.Rows L2
section
variable {P : Program} {w : World} {K : PySem.W.Frag} {mg : Str → Option Value} {base : Heap} {T : Cl}
def spCInit (K : PySem.W.Frag) (T : Cl) : Sp := fun vs H Q _ => ∃ c dx hi lr kept, vs = [.ref c, .ref hi] ∧ H c = some (.ins (cAd K "Console") dx []) ∧ HisS K H hi lr kept ∧ c ≠ hi ∧ c ≠ lr ∧ hi ≠ lr ∧ ∀ H' b ll, Kp [c] H H' → H b = none → H ll = none → ConS K T H' c hi lr b ll [] kept 0 → Q .non H'
theorem ok_c_init (W : HW P w K mg base T) : ∀ j, j ≤ 1 → FnR P w K mg base CX0 35 (He.fAd K ("Console", some "__init__")) (fun vs H Q E => spCInit K T (vs ++ ([V.non] : List V).drop j) H Q E) := by
  have nd := hc_c_init.nd
  refine hand_dfl (d := e_c_init) (n := 1) (k := 34) (sp := spCInit K T) (W.hd _ (List.mem_of_getElem? (i := 20) rfl)) (fun z => nomatch z) rfl rfl hc_c_init (fun vs H Q E h => ?_) (fun j hj T kV doc pm an cdv ct us its h1 h2 => ?_)
    (fun cdv A outer s H vs Q E hr h => ⟨_, PSs.nox (
      pss_cons (ps_fld (pv 0) (pe_ifExp (pt_cmpR op_isN (pv 1) pe_non (nomark _)) (pe_makeN (E := E0) (W.mk_ _ (by decide)) (ok_h_init W 0 (by decide)) hr rfl (W.mgc _ (by decide)) pass0) (pv 1)) rfl)
      (pss_cons (ps_fld (pv 0) (pe_makeN (E := E0) (W.mk_ _ (by decide)) (ok_b_init W) hr rfl (W.mgc _ (by decide)) pass0) rfl)
      (pss_one (ps_fld (pv 0) pe_int rfl)))), ?_⟩)
  · obtain ⟨c, dx, hi, lr, kept, rfl, _⟩ := h
    rfl
  · match its, h2 with
    | [i1], _ =>
      match j, us, h1 with
      | 0, [a], _ => exact ⟨_, rfl, by kernel_rfl⟩
      | 1, [a, b], _ => exact ⟨_, rfl, by kernel_rfl⟩
      | j + 2, _, _ => exact absurd hj (by show ¬ j + 2 ≤ 1; omega)
  · obtain ⟨c, dx, hi, lr, kept, rfl, h1, hH, hch, hcl, hhl, hQ⟩ := h
    refine ⟨_, rfl, rfl, false, rfl, iteF ?_⟩
    refine ⟨_, rfl, _, rfl, c, _, dx, _, rfl, h1, W.cl (by decide), W.na (by decide), by decide, ?_⟩
    have a1 : upd H c (.ins (cAd K "Console") dx [("shelf", .ref hi)]) c = _ := upd_same
    intro x dx2 hx hdx hne
    have cx : x ≠ c := fun z => by rw [z] at hx; rw [show upd H c (.ins (cAd K "Console") dx (putF "shelf" (.ref hi) [])) c = _ from upd_same] at hx; cases hx
    have cdx : dx2 ≠ c := fun z => by rw [z] at hdx; rw [show upd H c (.ins (cAd K "Console") dx (putF "shelf" (.ref hi) [])) c = _ from upd_same] at hdx; cases hdx
    have hx0 : H x = none := by rw [upd_ne cx] at hx; exact hx
    have hdx0 : H dx2 = none := by rw [upd_ne cdx] at hdx; exact hdx
    refine ⟨x, dx2, rfl, upd_same, fun H5 ll5 kp5 hl5 hB5 => ⟨rfl, ?_⟩⟩
    have l1 : ll5 ≠ x := fun z => by rw [z, upd_same] at hl5; cases hl5
    have l2 : ll5 ≠ dx2 := fun z => by rw [upd_ne l1, z, upd_same] at hl5; cases hl5
    have l3 : ll5 ≠ c := fun z => by rw [upd_ne l1, upd_ne l2, z, upd_same] at hl5; cases hl5
    have l4 : H ll5 = none := by rw [upd_ne l1, upd_ne l2, upd_ne l3] at hl5; exact hl5
    have sx : ∀ y o, upd H c (.ins (cAd K "Console") dx [("shelf", .ref hi)]) y = some o → H5 y = some o := fun y o e => by
      have y1 : y ≠ x := fun z => by rw [z, upd_ne cx, hx0] at e; cases e
      have y2 : y ≠ dx2 := fun z => by rw [z, upd_ne cdx, hdx0] at e; cases e
      exact kp5 y o (by rw [upd_ne y1, upd_ne y2]; exact e) fun z => y1 (List.mem_singleton.mp z)
    refine ⟨_, rfl, c, _, dx, _, rfl, sx _ _ upd_same, W.cl (by decide), W.na (by decide), (show (1:Nat) < 1000 by decide), ?_⟩
    refine ⟨_, rfl, c, _, dx, _, rfl, upd_same, W.cl (by decide), W.na (by decide), (show (2:Nat) < 1000 by decide), ?_⟩
    obtain ⟨dxh, g1, g2⟩ := hH
    have hix : hi ≠ x := fun z => by rw [z, hx0] at g1; cases g1
    have hil : hi ≠ ll5 := fun z => by rw [z, l4] at g1; cases g1
    have lx : lr ≠ x := fun z => by rw [z, hx0] at g2; cases g2
    have lll : lr ≠ ll5 := fun z => by rw [z, l4] at g2; cases g2
    have k6 : ∀ o1 o2, Kp [c] H5 (upd (upd H5 c o1) c o2) := fun o1 o2 => Kp.upd (Kp.upd (Kp.refl _ H5) (List.mem_cons_self ..)) (List.mem_cons_self ..)
    refine hQ _ x ll5 (fun y o e hy => k6 _ _ y o (sx _ _ (by rw [upd_ne (fun z => hy (by rw [z]; exact List.mem_cons_self ..))]; exact e)) hy) hx0 l4 ⟨⟨dx, upd_same⟩, ⟨dxh, k6 _ _ _ _ (sx _ _ (by rw [upd_ne (Ne.symm hch)]; exact g1)) (fun z => hch (List.mem_singleton.mp z).symm), k6 _ _ _ _ (sx _ _ (by rw [upd_ne (Ne.symm hcl)]; exact g2)) (fun z => hcl (List.mem_singleton.mp z).symm)⟩,
      hB5.kp W (k6 _ _) (fun z => cx (List.mem_singleton.mp z)) (fun z => l3 (List.mem_singleton.mp z)) (fun y hy o e => ?_), ?_⟩
    · rw [List.mem_singleton.mp hy, sx _ _ upd_same] at e
      cases e
      exact W.apart "Console" (by decide)
    · simp only [List.nodup_cons, List.mem_cons, List.not_mem_nil, or_false, not_or, List.nodup_nil, not_false_eq_true, and_true]
      exact ⟨⟨hch, hcl, Ne.symm cx, Ne.symm l3⟩, ⟨hhl, hix, hil⟩, ⟨lx, lll⟩, Ne.symm l1⟩
def spC1 (K : PySem.W.Frag) (T : Cl) (R : List Nat → Int → V → Hp → Prop) : Sp := fun vs H Q _ => ∃ c hi lr b ll js kept n, vs = [.ref c] ∧ ConS K T H c hi lr b ll js kept n ∧ ∀ v H', Same H H' → R js n v H' → Q v H'
theorem spC1_len {R : List Nat → Int → V → Hp → Prop} (vs : List V) (H : Hp) (Q : VK) (E : XK) (h : spC1 K T R vs H Q E) : vs.length = 1 := by
  obtain ⟨c, hi, lr, b, ll, js, kept, n, rfl, _⟩ := h
  rfl
theorem ok_entered (W : HW P w K mg base T) : Getter P w K mg base 3 (gAd K ("Console", some "entered")) (spC1 K T fun js n v H => v = .int n) := by
  refine hand_fn (d := e_c_entered) (W.gd _ (List.mem_of_getElem? (i := 7) rfl)) rfl rfl hc_c_entered spC1_len (fun _ _ _ _ _ _ us hl => match us, hl with | [_], _ => by kernel_rfl)
    fun cdv A outer s H vs Q E hr h => ⟨_, pss_one (ps_ret (pe_fld (pv 0) rfl)), ?_⟩
  obtain ⟨c, hi, lr, b, ll, js, kept, n, rfl, hC, hQ⟩ := h
  obtain ⟨dx, h1⟩ := hC.con
  exact ⟨_, rfl, c, _, dx, _, _, rfl, h1, W.cl (by decide), W.na (by decide), rfl, hQ _ _ (Same.refl H) rfl⟩
theorem ok_waiting (W : HW P w K mg base T) : Getter P w K mg base 3 (gAd K ("Console", some "waiting")) (spC1 K T fun js n v H => ∃ lt, v = .ref lt ∧ SqT K H lt (js.map lnV)) := by
  obtain ⟨pa, hp⟩ := prop_of W (c := "Buffer") (f := "all_lines") (by decide)
  obtain ⟨fd, F, B⟩ := ok_all_lines W
  refine hand_fn (d := e_c_waiting) (W.gd _ (List.mem_of_getElem? (i := 5) rfl)) rfl rfl hc_c_waiting spC1_len (fun _ _ _ _ _ _ us hl => match us, hl with | [_], _ => by kernel_rfl)
    fun cdv A outer s H vs Q E hr h => ⟨_, pss_one (ps_ret (pe_prop (CX := CX0) (E := E0) (pe_fld (pv 0) rfl) (W.cl (c := "Buffer") (by decide)) hp F hr B .nil pass0 rfl)), ?_⟩
  obtain ⟨c, hi, lr, b, ll, js, kept, n, rfl, hC, hQ⟩ := h
  obtain ⟨dx, h1⟩ := hC.con
  obtain ⟨dxb, tp, lt, sv, wk, tot, lv, hb1, _⟩ := hC.buf.ex
  exact ⟨_, rfl, c, _, dx, _, _, rfl, h1, W.cl (by decide), W.na (by decide), rfl, b, dxb, _, rfl, hb1, b, ll, js, rfl, hC.buf, fun v H' s r => hQ v H' s r⟩
theorem ok_c_spot (W : HW P w K mg base T) : Getter P w K mg base 3 (gAd K ("Console", some "spot")) (spC1 K T fun js n v H => Rep K T H v (spotD (runS s0 js))) := by
  obtain ⟨pa, hp⟩ := prop_of W (c := "Buffer") (f := "spot") (by decide)
  obtain ⟨fd, F, B⟩ := ok_b_spot W
  refine hand_fn (d := e_c_spot) (W.gd _ (List.mem_of_getElem? (i := 6) rfl)) rfl rfl hc_c_spot spC1_len (fun _ _ _ _ _ _ us hl => match us, hl with | [_], _ => by kernel_rfl)
    fun cdv A outer s H vs Q E hr h => ⟨_, pss_one (ps_ret (pe_prop (CX := CX0) (E := E0) (pe_fld (pv 0) rfl) (W.cl (c := "Buffer") (by decide)) hp F hr B .nil pass0 rfl)), ?_⟩
  obtain ⟨c, hi, lr, b, ll, js, kept, n, rfl, hC, hQ⟩ := h
  obtain ⟨dx, h1⟩ := hC.con
  obtain ⟨dxb, tp, lt, sv, wk, tot, lv, hb1, _⟩ := hC.buf.ex
  exact ⟨_, rfl, c, _, dx, _, _, rfl, h1, W.cl (by decide), W.na (by decide), rfl, b, dxb, _, rfl, hb1, b, ll, js, rfl, hC.buf, fun v H' s r => hQ v H' s r⟩
end
end Rp
namespace Rp
open PySem PySem.Spec PyProof.Rows L2 NwS
section
variable {X : Cx} {k : Nat} {C f : Addr} {fd : FuncData} {ps : List Str} {sp : Sp}
theorem call_lenOwn (F : FnOk X.prog X.w X.K X.mg X.base CX0 k f fd ps sp) (hb : Binds X.K fd ps []) (hm : Meth X.K C "__len__" f) (hr : Room (k + 1) X.A) :
    CallR X (.builtin "len") (fun xs H Q => ∃ a dx fs, xs = [.ref a] ∧ H a = some (.ins C dx fs) ∧ sp [.ref a] H (fun v H' => ∃ n : Nat, v = .int n ∧ n < 2 ^ 62 ∧ Q (.int n) H') E0) := by
  intro pins s σ H xs us Q I r h
  obtain ⟨a, dx, fs, rfl, ha, hsp⟩ := h
  obtain ⟨u, rfl, ru⟩ := vals1 r
  obtain rfl : u = Value.ref a := ru
  obtain ⟨mA, O, _, _, _, _⟩ := ins_get I.hok ha
  obtain ⟨od, J, _⟩ := O.look
  refine Calls.call_function_entry kind_len plain_len entry_len (args_len1 _) ?_
  unfold Builtin.«len»
  refine wpAny_bind (m := oneArg "len" _) (wpAny_pure ?_)
  refine wpAny_bind (m := callSpecial? (.ref a) (PySem.Str.ofString "__len__")) (PySem.W.special_fn (name := "__len__") (args := []) I.kIn J hm.at_ (beq_iff_eq.mp hm.fn) ?_)
  have hl : ([Value.ref a] ++ []).length = ps.length := F.len _ _ _ _ hsp
  refine wpAny_call (codeAny_mono (F.run X.A.in1 X.stack s H ⟨[.ref a], []⟩ [.ref a] [.ref a] _ E0 hr.in1 I.env0.in1 (hb _ [.ref a] I.kIn hl) (.cons rfl .nil) hsp) fun r s' hq => ?_)
  cases r with
  | error er => exact False.elim (pass0 (X := X.nox) pins σ H s er s' (I.wish _) hq)
  | ok fl =>
    cases fl with
    | ret u =>
      obtain ⟨v, H', I3, rv, n, rfl, hn, q3⟩ := I.after hq
      obtain ⟨t, rfl⟩ := rv
      refine wpAny_bind (wpAny_holding (wpAny_pure ?_))
      refine wpAny_bind (wpAny_letGo ?_)
      show wpAny _ _ (if ((n : Nat) : Int) < 0 then _ else _) _ _ _
      rw [if_neg (by omega)]
      show wpAny _ _ (if ((n : Nat) : Int) ≥ 2 ^ 63 then _ else _) _ _ _
      rw [if_neg (by omega)]
      exact wpAny_bind (wpAny_mkInt (wpAny_pure ⟨_, rfl, ⟨.int n, H', I3.tok _, ⟨_, rfl⟩, q3⟩⟩))
    | next => exact False.elim hq
    | brk => exact False.elim hq
    | cont => exact False.elim hq
end
section
variable {P : Program} {w : World} {K : PySem.W.Frag} {mg : Str → Option Value} {base : Heap} {T : Cl}
def prmt (js : List Nat) : Str := if js.length = 0 then ">>> " else if verdR (runS s0 js) = tWrong then "!!! " else "... "
theorem ok_prompt (W : HW P w K mg base T) : Getter P w K mg base 3 (gAd K ("Console", some "prompt")) (spC1 K T fun js n v H => v = .str (prmt js)) := by
  obtain ⟨pa, hp⟩ := prop_of W (c := "Buffer") (f := "verdict") (by decide)
  obtain ⟨fd, F, B⟩ := ok_b_verdict W
  obtain ⟨fdl, Fl, Bl⟩ := ok_b_len W
  obtain ⟨tf, hf⟩ := W.fresh_
  obtain ⟨tm, hm⟩ := W.more_
  obtain ⟨tw, hw⟩ := W.wrong_
  refine hand_fn (d := e_c_prompt) (W.gd _ (List.mem_of_getElem? (i := 4) rfl)) rfl rfl hc_c_prompt spC1_len (fun _ _ _ _ _ _ us hl => match us, hl with | [_], _ => by kernel_rfl)
    fun cdv A outer s H vs Q E hr h => ⟨_, PSs.nox (pss_cons (ps_if (pt_cmpR op_eq (pe_callB (call_lenOwn Fl Bl (meth_of W (c := "Buffer") (f := "__len__") (by decide)) hr) (by rfl) (W.free _ (by decide)) PySem.boot_len (pa_cons (pe_fld (pv 0) rfl) pa_nil)) pe_int (nomark _))
        (pss_one (ps_ret (pe_glob rfl hf (show L2.RelV (.str ">>> ") (.str ">>> " tf) from ⟨_, rfl⟩)))) pss_nil)
      (pss_one (ps_ret (pe_ifExp (pt_cmpR op_eq (pe_prop (CX := CX0) (E := E0) (pe_fld (pv 0) rfl) (W.cl (c := "Buffer") (by decide)) hp F hr B .nil pass0 rfl) pe_str (nomark _))
        (pe_glob rfl hw (show L2.RelV (.str "!!! ") (.str "!!! " tw) from ⟨_, rfl⟩)) (pe_glob rfl hm (show L2.RelV (.str "... ") (.str "... " tm) from ⟨_, rfl⟩)))))), ?_⟩
  obtain ⟨c, hi, lr, b, ll, js, kept, n, rfl, hC, hQ⟩ := h
  obtain ⟨dx, h1⟩ := hC.con
  obtain ⟨dxb, tp, lt, sv, wk, tot, lv, hb1, _⟩ := hC.buf.ex
  refine ⟨_, rfl, c, _, dx, _, _, rfl, h1, W.cl (by decide), W.na (by decide), rfl, b, dxb, _, rfl, hb1, b, ll, js, rfl, hC.buf, fun v H1 s1 e1 => ⟨js.length, e1, by have := hC.buf.len; omega, ?_⟩⟩
  refine ⟨rfl, _, rfl, ?_⟩
  by_cases h0 : js.length = 0
  · rw [decide_eq_true (show V.int (js.length : Nat) = V.int 0 by rw [h0]; rfl)]
    exact iteT (hQ _ _ s1 (by show _ = V.str (prmt js); unfold prmt; rw [if_pos h0]))
  · rw [decide_eq_false (show ¬ V.int (js.length : Nat) = V.int 0 from fun z => h0 (by have := V.int.inj z; omega))]
    refine iteF ?_
    refine ⟨_, rfl, c, _, dx, _, _, rfl, s1 _ _ h1, W.cl (by decide), W.na (by decide), rfl, b, dxb, _, rfl, s1 _ _ hb1, b, ll, js, rfl, hC.buf.same s1, fun v2 H2 s2 e2 => ?_⟩
    subst e2
    refine ⟨rfl, _, rfl, ?_⟩
    have ew : ("wrong" : Str) = toS tWrong := by decide +kernel
    by_cases hw : verdR (runS s0 js) = tWrong
    · rw [decide_eq_true (show V.str (toS (verdR (runS s0 js))) = V.str "wrong" by rw [hw, ew])]
      exact iteT (hQ _ _ (s1.trans s2) (by show _ = V.str (prmt js); unfold prmt; rw [if_neg h0, if_pos hw]))
    · rw [decide_eq_false (show ¬ V.str (toS (verdR (runS s0 js))) = V.str "wrong" from fun z => hw (toS_inj (by rw [← ew]; exact V.str.inj z)))]
      exact iteF (hQ _ _ (s1.trans s2) (by show _ = V.str (prmt js); unfold prmt; rw [if_neg h0, if_neg hw]))
end
end Rp
namespace Rp
open PySem PySem.Spec PyProof.Rows L2
section
variable {X : Cx} {o : Expr} {f : Str} {pos : Pos} {ta : TE}
/-- a field as a target among several -/
def gFldT (K : PySem.W.Frag) (ta : TE) (f : Str) : TG := fun y σ H Q => ta σ H fun x H2 => ∃ a C dx fs, x = .ref a ∧ H2 a = some (.ins C dx fs) ∧ Cls K C ∧ NoAttr K C f ∧ fs.length < 1000 ∧ Q σ (upd H2 a (.ins C dx (putF f y fs)))
theorem pg_fldT (ha : PE X o ta) : PG X (.Attribute o f pos) (gFldT X.K ta f) := by
  refine ⟨fun pins s σ H v u Q I r h => ?_⟩
  refine PySem.W.kas_attr (thn (ha.run pins s σ H _ I h) fun ov s2 ⟨x, H2, I2, rx, a, C, dx, fs, ex, ea, c, n, l, q2⟩ => ?_)
  subst ex
  obtain rfl : ov = Value.ref a := rx
  exact setattr_ok I2 ea c n l r fun s3 I3 => ⟨σ, _, I3, q2⟩
end
section
variable {P : Program} {w : World} {K : PySem.W.Frag} {mg : Str → Option Value} {base : Heap} {T : Cl}
def RdS (K : PySem.W.Frag) (T : Cl) (H : Hp) (r : Addr) (js : List Nat) : Prop := ∃ dx sv bv gv, H r = some (.ins (cAd K "Reading") dx [("signs", sv), ("behind", bv), ("good", gv)]) ∧ Rep K T H bv (optR (runS s0 js)) ∧ Lines js ∧ js.length ≤ 10
def spRInit (K : PySem.W.Frag) (T : Cl) : Sp := fun vs H Q _ => ∃ x dx js, vs = [.ref x, txV (textS js)] ∧ H x = some (.ins (cAd K "Reading") dx []) ∧ Lines js ∧ js.length ≤ 10 ∧ ∀ H', Kp [x] H H' → RdS K T H' x js → Q .non H'
theorem noLD_optR (r : Sum LS (Nat × Nat)) : noLD (optR r) = true := by
  cases r with
  | inl t => exact noLD_opt (some t)
  | inr p => rfl
theorem outT_rep {H : Hp} {v : V} {js : List Nat} {r : Sum LS (Nat × Nat)} (h : Rep K T H v (outT js r)) : ∃ q bv gv, v = .ref q ∧ SqT K H q [bv, gv] ∧ Rep K T H bv (optR r) := by
  cases r with
  | inl t =>
    obtain ⟨q, vs, rfl, hq, hr⟩ := rep_tup h
    cases hr with
    | cons a b => cases b with
      | cons b c => cases c; exact ⟨q, _, _, rfl, hq, a⟩
  | inr p =>
    obtain ⟨q, vs, rfl, hq, hr⟩ := rep_tup h
    cases hr with
    | cons a b => cases b with
      | cons b c => cases c; exact ⟨q, _, _, rfl, hq, a⟩
theorem ok_r_init (W : HW P w K mg base T) : ∀ j, j ≤ 1 → FnR P w K mg base CX0 34 (He.fAd K ("Reading", some "__init__")) (fun vs H Q E => spRInit K T (vs ++ ([V.str ""] : List V).drop j) H Q E) := by
  have nd := hc_r_init.nd
  refine hand_dfl (d := e_r_init) (n := 1) (k := 33) (sp := spRInit K T) (W.hd _ (List.mem_of_getElem? (i := 25) rfl)) (fun z => nomatch z) rfl rfl hc_r_init (fun vs H Q E h => ?_) (fun j hj T kV doc pm an cdv ct us its h1 h2 => ?_)
    (fun cdv A outer s H vs Q E hr h => ⟨_, PSs.nox (
      pss_cons (ps_expr (pe_callR (E := E0) (ok_check_text W) hr rfl (W.glo _ (by decide)) (W.hd e_check_text (List.mem_of_getElem? (i := 0) rfl)).choose_spec.kp pass0 (pa_cons (pv 1) pa_nil) rfl rfl))
      (pss_cons (ps_fld (pv 0) (pv 1) rfl)
      (pss_one (ps_asg (pe_pu W (hr.mono (by decide)) rfl rfl (pa_cons (pv 1) pa_nil)) (pg_tup rfl (pgs_cons (pg_fldT (pv 0)) (pgs_cons (pg_fldT (pv 0)) pgs_nil))))))), ?_⟩)
  · obtain ⟨x, dx, js, rfl, _⟩ := h
    rfl
  · match its, h2 with
    | [i1], _ =>
      match j, us, h1 with
      | 0, [a], _ => exact ⟨_, rfl, by kernel_rfl⟩
      | 1, [a, b], _ => exact ⟨_, rfl, by kernel_rfl⟩
      | j + 2, _, _ => exact absurd hj (by show ¬ j + 2 ≤ 1; omega)
  · obtain ⟨x, dx, js, rfl, hx, hj, hl, hQ⟩ := h
    refine ⟨_, rfl, js, hj, hl, rfl, fun H1 s1 => ?_⟩
    refine ⟨_, rfl, _, rfl, x, _, dx, _, rfl, s1 _ _ hx, W.cl (by decide), W.na (by decide), by decide, ?_⟩
    refine ⟨_, rfl, [.str (textS js)], outT js (runS s0 js), .cons (.str _) .nil, stateOf_ok 13 hj hl, fun v H2 s2 r2 => ?_⟩
    obtain ⟨q, bv, gv, rfl, hq, hb⟩ := outT_rep r2
    have hx2 := s2 _ _ (show upd H1 x (.ins (cAd K "Reading") dx [("signs", txV (textS js))]) x = some (.ins (cAd K "Reading") dx [("signs", txV (textS js))]) from upd_same)
    refine ⟨q, [bv, gv], rfl, hq, rfl, _, _, rfl, _, rfl, x, _, dx, _, rfl, hx2, W.cl (by decide), W.na (by decide), (show (1:Nat) < 1000 by decide), ?_⟩
    refine ⟨_, _, rfl, _, rfl, x, _, dx, _, rfl, upd_same, W.cl (by decide), W.na (by decide), (show (2:Nat) < 1000 by decide), rfl, ?_⟩
    have k : ∀ o1 o2, Kp [x] H2 (upd (upd H2 x o1) x o2) := fun o1 o2 => Kp.upd (Kp.upd (Kp.refl _ H2) (List.mem_cons_self ..)) (List.mem_cons_self ..)
    refine hQ _ (fun y o e hy => k _ _ y o (s2 _ _ (by rw [upd_ne (fun z => hy (by rw [z]; exact List.mem_cons_self ..))]; exact s1 _ _ e)) hy) ⟨dx, _, _, _, upd_same, Rep.kp W.tat (k _ _) (fun y hy o e => ?_) hb (noLD_optR _), hj, hl⟩
    rw [List.mem_singleton.mp hy, hx2] at e
    cases e
    exact W.apart "Reading" (by decide)
def spRd (K : PySem.W.Frag) (T : Cl) : Sp := fun vs H Q _ => ∃ r js, vs = [.ref r] ∧ RdS K T H r js ∧ ∀ H', Same H H' → Q (.str (toS (verdR (runS s0 js)))) H'
theorem ok_r_verdict (W : HW P w K mg base T) : Getter P w K mg base 34 (gAd K ("Reading", some "verdict")) (spRd K T) := by
  refine hand_fn (d := e_r_verdict) (W.gd _ (List.mem_of_getElem? (i := 8) rfl)) rfl rfl hc_r_verdict (fun vs H Q E h => ?_) (fun _ _ _ _ _ _ us hl => match us, hl with | [_], _ => by kernel_rfl)
    fun cdv A outer s H vs Q E hr h => ⟨_, pss_one (ps_ret (pe_pu W (hr.mono (by decide)) rfl rfl (pa_cons (pe_fld (pv 0) rfl) pa_nil))), ?_⟩
  · obtain ⟨r, js, rfl, _⟩ := h
    rfl
  · obtain ⟨r, js, rfl, ⟨dx, sv, bv, gv, h1, h2, hj, hl⟩, hQ⟩ := h
    refine ⟨_, rfl, r, _, dx, _, _, rfl, h1, W.cl (by decide), W.na (by decide), rfl, [optR (runS s0 js)], _, .cons h2 .nil, verdictR 28 hj hl, fun v H' s rv => ?_⟩
    cases rep_str rv
    exact hQ H' s
end
end Rp
namespace Rp
open PySem PySem.Spec PyProof.Rows L2
section
variable {P : Program} {w : World} {K : PySem.W.Frag} {mg : Str → Option Value} {base : Heap} {T : Cl}
theorem op_catS {X : Cx} : OpR X (binaryOp .Add) (fun x y H Q => ∃ l b xs zs, x = .ref l ∧ y = .ref b ∧ SqL X.K H l xs ∧ Rd H b (.lst zs) ∧ xs.length + zs.length ≤ sizeLine ∧ ∀ p, H p = none → Q (.ref p) (upd H p (.lst (xs ++ zs)))) := by
  intro pins s σ H x y v u Q I rx ry h
  obtain ⟨l, b, xs, zs, rfl, rfl, hH, hB, hz, q⟩ := h
  cases rx
  cases ry
  obtain ⟨its, r, ⟨⟨cl, dd, da, sl⟩, n, e, ec, _, ed⟩, hl⟩ := I.list hH
  obtain ⟨z2, its2, n2, r2, hl2, e2⟩ := rd_list I hB
  simp only at ec ed
  subst ec ed
  refine concat_meets ⟨_, e, rfl⟩ ⟨_, e2, rfl⟩ noFill_list_add seq_list_add PySem.F.slot_list_add PySem.F.entry_list_add (PySem.F.args_list_add_2 _ _) (list_addW l b its.toArray its2.toArray n n2 dd none sl #[] (by rw [List.size_toArray, List.size_toArray, ← r.length, ← r2.length]; omega)) ⟨e, e2, ?_⟩
  have ea : its.toArray ++ its2.toArray = (its ++ its2).toArray := by simp
  rw [ea]
  exact ⟨.ref _, _, I.lnew (t' := s.toks) (r.append r2) (by rw [List.length_append]; omega), rfl, q _ I.fresh⟩
def drawL (la : Addr) (at_ left used : Int) : List (Key × V) := [(.inr "cells", .ref la), (.inr "at", .int at_), (.inr "left", .int left), (.inr "used", .int used)]
/-- the draw -/
structure DrawS (H : Hp) (d la : Addr) (m : Nat) : Prop where
  ex : ∃ (cells : List Int) (at_ left used : Int), H d = some (.dK (drawL la at_ left used)) ∧ H la = some (.lst (cells.map V.int)) ∧ cells ≠ [] ∧ cells.length ≤ 1000 ∧ 0 ≤ at_ ∧ at_ ≤ m ∧ 0 ≤ left ∧ 0 ≤ used ∧ used ≤ m
def spBegin (K : PySem.W.Frag) : Sp := fun vs H Q _ => ∃ ls cells, vs = [.ref ls] ∧ SqL K H ls ((cells : List Int).map V.int) ∧ cells.length < 1000 ∧ ∀ H' d la, Same H H' → H d = none → H la = none → d ≠ la → DrawS H' d la 0 → Q (.ref d) H'
theorem ok_begin (W : HW P w K mg base T) : FnR P w K mg base CX0 33 (He.fAd K ("_law_begin", none)) (spBegin K) := by
  have nd := hc_law_begin.nd
  refine hand_R (hand_fn (d := e_law_begin) (W.hd _ (List.mem_of_getElem? (i := 4) rfl)) rfl rfl hc_law_begin (fun vs H Q E h => ?_) (fun _ _ _ _ _ _ us hl => match us, hl with | [_], _ => by kernel_rfl)
    fun cdv A outer s H vs Q E hr h => ⟨_, PSs.nox (
      pss_one (ps_ret (pe_disp (pps_cons pe_str (pe_op op_catS (pv 0) (pe_lst (pa_cons pe_int pa_nil))) (pps_cons pe_str pe_int (pps_cons pe_str pe_int (pps_cons pe_str pe_int pps_nil)))) rfl rfl (fun z => nomatch z) (show (4:Nat) ≤ 15 by decide)))), ?_⟩)
  · obtain ⟨ls, cells, rfl, _⟩ := h
    rfl
  · obtain ⟨ls, cells, rfl, hls, hl, hQ⟩ := h
    intro p hp
    have sp := same_new (o := .dK []) hp
    refine ⟨_, rfl, by show 1 ≤ sizeLine; decide, fun l hl2 => ?_⟩
    have sl := same_new (o := .lst [.int 0]) hl2
    refine ⟨ls, l, _, _, rfl, rfl, (sp.trans sl).seq hls, .inl upd_same, by rw [List.length_map, sizeLine_eq]; show _ + 1 ≤ _; omega, fun q hq => ?_⟩
    have sq := same_new (o := .lst (cells.map V.int ++ [.int 0])) hq
    refine ⟨sq _ _ (sl _ _ upd_same), drawL q 0 0 0, rfl, (show (4:Nat) ≤ 15 by decide), ?_⟩
    have em : mergeK [] (drawL q 0 0 0) = drawL q 0 0 0 := merge_new (by show List.Nodup [(Sum.inr "cells" : Key), .inr "at", .inr "left", .inr "used"]; decide +kernel)
    rw [em]
    have hpq : p ≠ q := fun z => by
      rw [← z, sl _ _ upd_same] at hq
      cases hq
    have hq0 : H q = none := by
      cases e : H q with
      | none => rfl
      | some o => rw [sl _ _ (sp _ _ e)] at hq; cases hq
    refine hQ _ p q (fun x o e => ?_) hp hq0 hpq ⟨cells ++ [0], 0, 0, 0, upd_same, ?_, by simp, by rw [List.length_append]; show _ + 1 ≤ _; omega, by decide, by decide, by decide, by decide, by decide⟩
    · rw [upd_ne (ne_of_none e hp)]
      exact sq _ _ (sl _ _ (sp _ _ e))
    · rw [upd_ne (Ne.symm hpq), upd_same, List.map_append]
      rfl
theorem draw_get {H : Hp} {d la : Addr} {a l u : Int} (h : H d = some (.dK (drawL la a l u))) : DGet H d (.str "cells") (some (.ref la)) ∧ DGet H d (.str "at") (some (.int a)) ∧ DGet H d (.str "left") (some (.int l)) ∧ DGet H d (.str "used") (some (.int u)) :=
  ⟨.inl ⟨_, .inr "cells", .inl h, rfl, by kernel_rfl⟩, .inl ⟨_, .inr "at", .inl h, rfl, by kernel_rfl⟩, .inl ⟨_, .inr "left", .inl h, rfl, by kernel_rfl⟩, .inl ⟨_, .inr "used", .inl h, rfl, by kernel_rfl⟩⟩
theorem put_at (la : Addr) (a l u x : Int) : putK (drawL la a l u) (.inr "at") (.int x) = drawL la x l u := by kernel_rfl
theorem put_left (la : Addr) (a l u x : Int) : putK (drawL la a l u) (.inr "left") (.int x) = drawL la a x u := by kernel_rfl
theorem put_used (la : Addr) (a l u x : Int) : putK (drawL la a l u) (.inr "used") (.int x) = drawL la a l x := by kernel_rfl
theorem draw_put {H : Hp} {d la : Addr} {a l u : Int} (h : H d = some (.dK (drawL la a l u))) (x : Int) : DPut H d (.str "at") (.int x) (upd H d (.dK (drawL la x l u))) ∧ DPut H d (.str "left") (.int x) (upd H d (.dK (drawL la a x u))) ∧ DPut H d (.str "used") (.int x) (upd H d (.dK (drawL la a l x))) :=
  ⟨.inl ⟨_, .inr "at", h, rfl, by rw [sizeLine_eq]; show 4 < _; omega, by rw [put_at]⟩, .inl ⟨_, .inr "left", h, rfl, by rw [sizeLine_eq]; show 4 < _; omega, by rw [put_left]⟩, .inl ⟨_, .inr "used", h, rfl, by rw [sizeLine_eq]; show 4 < _; omega, by rw [put_used]⟩⟩
def spNext : Sp := fun vs H Q _ => ∃ d la bound m, vs = [.ref d, .int bound] ∧ DrawS H d la m ∧ 0 < bound ∧ bound < 1000 ∧ m < 2 ^ 40 ∧ d ≠ la ∧ ∀ H' (r : Int), Kp [d] H H' → DrawS H' d la (m + 1) → 0 ≤ r → r < bound → Q (.int r) H'
theorem ok_next (W : HW P w K mg base T) : FnR P w K mg base CX0 33 (He.fAd K ("_law_next", none)) spNext := by
  have nd := hc_law_next.nd
  refine hand_R (hand_fn (d := e_law_next) (W.hd _ (List.mem_of_getElem? (i := 5) rfl)) rfl rfl hc_law_next (fun vs H Q E h => ?_) (fun _ _ _ _ _ _ us hl => match us, hl with | [_, _], _ => by kernel_rfl)
    fun cdv A outer s H vs Q E hr h => by
      have hu : (A.deeper (envOfC e_law_next.qual e_law_next.scope s.heap.objs.size (He.fAd K ("_law_next", none)) cdv)).units + 1 < cLine := by have := hr.un; omega
      refine ⟨_, PSs.nox (
        pss_cons (ps_if (pt_cmpR op_gt (pe_dget hu (pv 0) pe_str (fun _ _ => rfl)) pe_int (nomark _))
          (pss_cons (ps_set (i := 2) nd rfl (Or.inl rfl) (pe_op op_mod (pe_dget hu (pv 0) pe_str (fun _ _ => rfl)) (pv 1)))
          (pss_cons (ps_dput hu (pv 0) pe_str (pe_op op_fdiv (pe_dget hu (pv 0) pe_str (fun _ _ => rfl)) (pv 1)) rfl)
          (pss_one (ps_ret (pv 2))))) pss_nil)
        (pss_cons (ps_set (i := 3) nd rfl (Or.inl rfl) (pe_dget hu (pv 0) pe_str (fun _ _ => rfl)))
        (pss_cons (ps_set (i := 4) nd rfl (Or.inl rfl) (pe_ix ix_list (pv 3) (pe_op op_mod (pe_dget hu (pv 0) pe_str (fun _ _ => rfl)) (pe_callB call_len_seq (by rfl) (W.free _ (by decide)) PySem.boot_len (pa_cons (pv 3) pa_nil))) (fun _ _ => rfl)))
        (pss_cons (ps_dput hu (pv 0) pe_str (pe_op op_add (pe_dget hu (pv 0) pe_str (fun _ _ => rfl)) pe_int) rfl)
        (pss_cons (ps_if (PW.pt (pw_and (pt_cmpR op_ge (pv 4) (pe_op op_pow pe_int pe_int) (nomark _)) (pw_and1 (pt_cmpR op_le (pe_dget hu (pv 0) pe_str (fun _ _ => rfl)) (pe_callB call_len_seq (by rfl) (W.free _ (by decide)) PySem.boot_len (pa_cons (pv 3) pa_nil)) (nomark _)))))
          (pss_cons (ps_dput hu (pv 0) pe_str (pe_op op_fdiv (pv 4) (pv 1)) rfl) (pss_one (ps_ret (pe_op op_mod (pv 4) (pv 1))))) pss_nil)
        (pss_cons (ps_dput hu (pv 0) pe_str (pe_op op_add (pe_dget hu (pv 0) pe_str (fun _ _ => rfl)) pe_int) rfl)
        (pss_one (ps_ret (pe_op op_mod (pe_pu W hr rfl rfl (pa_cons (pe_pu W hr rfl rfl (pa_cons (pv 4) (pa_cons (pe_dget hu (pv 0) pe_str (fun _ _ => rfl)) pa_nil))) (pa_cons (pe_dget hu (pv 0) pe_str (fun _ _ => rfl)) pa_nil))) (pv 1)))))))))), ?_⟩
      obtain ⟨d, la, bound, m, rfl, hD, hb0, hb1, hm, hdl, hQ⟩ := h
      obtain ⟨cells, at_, left, used, h1, h2, hne, hcl, ha0, ha1, hl0, hu0, hu1⟩ := hD.ex
      obtain ⟨g1, g2, g3, g4⟩ := draw_get h1
      refine ⟨_, rfl, d, _, rfl, g3, _, _, rfl, rfl, _, rfl, ?_⟩
      by_cases hlt : 0 < left
      · rw [decide_eq_true (show (0 : Int) < left from hlt)]
        refine iteT ?_
        obtain ⟨p1, p2, p3⟩ := draw_put h1 (left / bound)
        refine ⟨_, rfl, d, _, rfl, g3, _, rfl, _, _, rfl, rfl, hb0, ?_⟩
        refine ⟨_, rfl, d, _, rfl, g3, _, rfl, _, _, rfl, rfl, ⟨hb0, by omega⟩, _, rfl, d, _, rfl, p2, _, rfl, ?_⟩
        refine hQ _ _ (Kp.upd (Kp.refl _ _) (List.mem_cons_self ..)) ⟨cells, at_, left / bound, used, upd_same, by rw [upd_ne (Ne.symm hdl)]; exact h2, hne, hcl, ha0, by omega, Int.ediv_nonneg hl0 (by omega), hu0, by omega⟩ (Int.emod_nonneg _ (by omega)) (Int.emod_lt_of_pos _ hb0)
      · rw [decide_eq_false (show ¬ (0 : Int) < left from hlt)]
        refine iteF ?_
        have hlen : (cells.map V.int).length = cells.length := List.length_map ..
        have hpos : 0 < cells.length := List.length_pos_iff.mpr hne
        obtain ⟨k, hk⟩ : ∃ k : Nat, at_ % ((cells.map V.int).length : Int) = (k : Int) := ⟨(at_ % ((cells.map V.int).length : Int)).toNat, by rw [Int.toNat_of_nonneg (Int.emod_nonneg _ (by rw [hlen]; omega))]⟩
        have hk2 : k < cells.length := by
          have := Int.emod_lt_of_pos at_ (show (0 : Int) < ((cells.map V.int).length : Int) by rw [hlen]; omega)
          rw [hk, hlen] at this
          omega
        obtain ⟨c, hc⟩ : ∃ c, cells[k]? = some c := ⟨_, List.getElem?_eq_getElem hk2⟩
        obtain ⟨p1, p2, p3⟩ := draw_put h1 (at_ + 1)
        refine ⟨_, rfl, d, _, rfl, g1, ?_⟩
        refine ⟨_, rfl, _, rfl, d, _, rfl, g2, _, rfl, la, _, rfl, .inl (SqL.of h2), _, _, rfl, rfl, (by show (0 : Int) < _; rw [hlen]; omega), la, _, _, .int c, rfl, rfl, SqL.of h2, (by rw [hk]; exact atI_nat (by rw [List.getElem?_map, hc]; rfl)), ?_⟩
        refine ⟨_, rfl, d, _, rfl, g2, _, _, rfl, rfl, _, rfl, d, _, rfl, p1, ?_⟩
        have h1' : upd H d (.dK (drawL la (at_ + 1) left used)) d = _ := upd_same
        obtain ⟨q1, q2, q3, q4⟩ := draw_get h1'
        have h2' : upd H d (.dK (drawL la (at_ + 1) left used)) la = some (.lst (cells.map V.int)) := by rw [upd_ne (Ne.symm hdl)]; exact h2
        refine ⟨_, rfl, _, _, rfl, rfl, ⟨by decide, by decide, by decide⟩, _, _, rfl, rfl, _, rfl, ?_⟩
        by_cases hge : (10 : Int) ^ 18 ≤ c
        · rw [decide_eq_true (show (10 : Int) ^ (18 : Int).toNat ≤ c from hge)]
          refine iteT ?_
          refine ⟨_, rfl, d, _, rfl, q2, _, rfl, la, _, rfl, .inl (SqL.of h2'), _, _, rfl, rfl, _, rfl, ?_⟩
          rw [hlen]
          by_cases hle : at_ + 1 ≤ (cells.length : Int)
          · rw [decide_eq_true hle]
            refine iteT ?_
            obtain ⟨_, r2, _⟩ := draw_put h1' (c / bound)
            refine ⟨_, rfl, _, rfl, _, _, rfl, rfl, ⟨hb0, by omega⟩, _, rfl, d, _, rfl, r2, ?_⟩
            refine ⟨_, rfl, _, rfl, _, _, rfl, rfl, hb0, ?_⟩
            have hc0 : 0 ≤ c := Int.le_trans (by decide) hge
            exact hQ _ _ (Kp.upd (Kp.upd (Kp.refl _ _) (List.mem_cons_self ..)) (List.mem_cons_self ..)) ⟨cells, at_ + 1, c / bound, used, upd_same, by rw [upd_ne (Ne.symm hdl)]; exact h2', hne, hcl, by omega, by omega, Int.ediv_nonneg hc0 (by omega), hu0, by omega⟩ (Int.emod_nonneg _ (by omega)) (Int.emod_lt_of_pos _ hb0)
          · rw [decide_eq_false hle]
            refine iteF ?_
            obtain ⟨_, _, r3⟩ := draw_put h1' (used + 1)
            refine ⟨_, rfl, d, _, rfl, q4, _, _, rfl, rfl, _, rfl, d, _, rfl, r3, ?_⟩
            have h1'' : upd (upd H d (.dK (drawL la (at_ + 1) left used))) d (.dK (drawL la (at_ + 1) left (used + 1))) d = _ := upd_same
            have h2'' : upd (upd H d (.dK (drawL la (at_ + 1) left used))) d (.dK (drawL la (at_ + 1) left (used + 1))) la = some (.lst (cells.map V.int)) := by rw [upd_ne (Ne.symm hdl)]; exact h2'
            obtain ⟨x1, e1⟩ := mixed_ok 29 c (at_ + 1) ⟨by omega, by omega⟩
            obtain ⟨x2, e2⟩ := mixed_ok 29 x1 (used + 1) ⟨by omega, by omega⟩
            refine ⟨_, rfl, _, rfl, d, _, rfl, (draw_get h1'').2.1, [.int c, .int (at_ + 1)], _, .cons (.int _) (.cons (.int _) .nil), e1, fun v1 H1 s1 r1 => ?_⟩
            cases rep_int r1
            refine ⟨_, rfl, d, _, rfl, (draw_get (s1 _ _ h1'')).2.2.2, [.int x1, .int (used + 1)], _, .cons (.int _) (.cons (.int _) .nil), e2, fun v2 H2 s2 r2 => ?_⟩
            cases rep_int r2
            refine ⟨_, rfl, _, _, rfl, rfl, hb0, ?_⟩
            exact hQ _ _ (Kp.same (Kp.upd (Kp.upd (Kp.refl _ _) (List.mem_cons_self ..)) (List.mem_cons_self ..)) (s1.trans s2)) ⟨cells, at_ + 1, left, used + 1, s2 _ _ (s1 _ _ h1''), s2 _ _ (s1 _ _ h2''), hne, hcl, by omega, by omega, hl0, by omega, by omega⟩ (Int.emod_nonneg _ (by omega)) (Int.emod_lt_of_pos _ hb0)
        · rw [decide_eq_false (show ¬ (10 : Int) ^ (18 : Int).toNat ≤ c from hge)]
          refine iteF ?_
          obtain ⟨_, _, r3⟩ := draw_put h1' (used + 1)
          refine ⟨_, rfl, d, _, rfl, q4, _, _, rfl, rfl, _, rfl, d, _, rfl, r3, ?_⟩
          have h1'' : upd (upd H d (.dK (drawL la (at_ + 1) left used))) d (.dK (drawL la (at_ + 1) left (used + 1))) d = _ := upd_same
          have h2'' : upd (upd H d (.dK (drawL la (at_ + 1) left used))) d (.dK (drawL la (at_ + 1) left (used + 1))) la = some (.lst (cells.map V.int)) := by rw [upd_ne (Ne.symm hdl)]; exact h2'
          obtain ⟨x1, e1⟩ := mixed_ok 29 c (at_ + 1) ⟨by omega, by omega⟩
          obtain ⟨x2, e2⟩ := mixed_ok 29 x1 (used + 1) ⟨by omega, by omega⟩
          refine ⟨_, rfl, _, rfl, d, _, rfl, (draw_get h1'').2.1, [.int c, .int (at_ + 1)], _, .cons (.int _) (.cons (.int _) .nil), e1, fun v1 H1 s1 r1 => ?_⟩
          cases rep_int r1
          refine ⟨_, rfl, d, _, rfl, (draw_get (s1 _ _ h1'')).2.2.2, [.int x1, .int (used + 1)], _, .cons (.int _) (.cons (.int _) .nil), e2, fun v2 H2 s2 r2 => ?_⟩
          cases rep_int r2
          refine ⟨_, rfl, _, _, rfl, rfl, hb0, ?_⟩
          exact hQ _ _ (Kp.same (Kp.upd (Kp.upd (Kp.refl _ _) (List.mem_cons_self ..)) (List.mem_cons_self ..)) (s1.trans s2)) ⟨cells, at_ + 1, left, used + 1, s2 _ _ (s1 _ _ h1''), s2 _ _ (s1 _ _ h2''), hne, hcl, by omega, by omega, hl0, by omega, by omega⟩ (Int.emod_nonneg _ (by omega)) (Int.emod_lt_of_pos _ hb0))
  · obtain ⟨d, la, bound, m, rfl, _⟩ := h
    rfl
end
end Rp
namespace Rp
open PySem PySem.Spec PyProof.Rows L2
def vl (s : List Ch) : List Nat := s.map (·.val)
theorem vl_app (a b : List Ch) : vl (a ++ b) = vl a ++ vl b := List.map_append
theorem vl_toS (s : List Ch) : TL.tl (toS s) = vl s := rfl
theorem lines_noNl : (lines.all fun s => s.all fun c => !Nat.beq c.val 10) = true := by kernel_rfl
theorem lnT_mem {j : Nat} (h : j < 27) : lnT j ∈ lines := nth_mem (by rw [lines_len]; exact h)
theorem lnT_noNl {j : Nat} (h : j < 27) : 10 ∉ vl (lnT j) := fun hm => by
  obtain ⟨c, hc, e⟩ := List.mem_map.mp hm
  have h1 := List.all_eq_true.mp (List.all_eq_true.mp lines_noNl _ (lnT_mem h)) c hc
  rw [e] at h1
  cases h1
theorem vl_ln {j : Nat} (h : j < 27) : vl (ln j) = vl (lnT j) ++ [10] := by
  rw [(ln_split h).1, vl_app]
  rfl
theorem textS_app (a b : List Nat) : textS (a ++ b) = textS a ++ textS b := by
  unfold textS
  rw [List.map_append, List.flatten_append]
theorem lines_tail {j : Nat} {js : List Nat} (h : Lines (j :: js)) : Lines js := fun i hi => h i (List.mem_cons_of_mem _ hi)
theorem spl_lines : ∀ (ks : List Nat) (t : List Ch), Lines ks → 10 ∉ vl t → TL.spl [10] 0 [] (vl (textS ks ++ t)) = ks.map (fun j => vl (lnT j)) ++ [vl t]
  | [], t, _, ht => by
    show TL.spl [10] 0 [] (vl t) = [vl t]
    rw [TL.spl_last1 ht, List.nil_append]
  | k :: ks, t, hk, ht => by
    have hk0 : k < 27 := hk k (List.mem_cons_self ..)
    have e : vl (textS (k :: ks) ++ t) = vl (lnT k) ++ ([10] ++ vl (textS ks ++ t)) := by
      rw [textS_cons, List.append_assoc, vl_app, vl_ln hk0, List.append_assoc]
    rw [e, TL.spl_part1 (lnT_noNl hk0), List.nil_append, spl_lines ks t (lines_tail hk) ht]
    rfl
theorem tl_nl : TL.tl ("\n" : Str) = [10] := by decide +kernel
theorem split_lines {ks : List Nat} {t : List Ch} (hk : Lines ks) (ht : 10 ∉ vl t) : Txt.split (toS (textS ks ++ t)) "\n" = ks.map (fun j => toS (lnT j)) ++ [toS t] := by
  refine TL.map_tl_inj ?_
  rw [TL.split_spl _ _ (by rw [tl_nl]; exact fun z => nomatch z) (TL.kind_ok (by decide +kernel)), tl_nl, vl_toS, spl_lines ks t hk ht, List.map_append, List.map_map]
  rfl
theorem cnt_lines : ∀ (ks : List Nat) (t : List Ch), Lines ks → 10 ∉ vl t → cnt 10 (vl (textS ks ++ t)) = (ks.length : Nat)
  | [], t, _, ht => by
    show cnt 10 (vl t) = _
    rw [cnt_none 10 _ ht]
    rfl
  | k :: ks, t, hk, ht => by
    have hk0 : k < 27 := hk k (List.mem_cons_self ..)
    rw [textS_cons, List.append_assoc, vl_app, vl_ln hk0, cnt_append, cnt_append, cnt_none 10 _ (lnT_noNl hk0), cnt_lines ks t (lines_tail hk) ht, cnt_cons, cnt_nil, if_pos rfl, List.length_cons]
    omega
theorem count_lines {ks : List Nat} {t : List Ch} (hk : Lines ks) (ht : 10 ∉ vl t) : Txt.count (toS (textS ks ++ t)) "\n" = (ks.length : Nat) := by
  have e : ("\n" : Str) = ⟨#[10]⟩ := by decide +kernel
  rw [e, count_cnt]
  exact cnt_lines ks t hk ht
theorem cut_text {tx : List Ch} {n : Nat} (h : n ≤ tx.length) : cutS (toS tx) none (some (n : Int)) = toS (tx.take n) := by
  unfold cutS
  rw [HT.sIx_none, HT.sIx_nat, toS_len, Nat.min_eq_left h, Nat.sub_zero, List.drop_zero]
  show (⟨((vl tx).take n).toArray⟩ : Str) = ⟨((tx.take n).map (·.val)).toArray⟩
  unfold vl
  rw [List.map_take]
/-- the text in front of a place -/
theorem take_pos {js : List Nat} {p : Nat × Nat} {j : Nat} (hj : Lines js) (h1 : js[p.1]? = some j) (h2 : p.2 ≤ (lnT j).length) : (textS js).take (posS js p) = textS (js.take p.1) ++ (lnT j).take p.2 ∧ posS js p ≤ (textS js).length := by
  have hlt : p.1 < js.length := (List.getElem?_eq_some_iff.mp h1).1
  have hj0 : j < 27 := hj j (List.mem_of_getElem? h1)
  have e : textS js = textS (js.take p.1) ++ (ln j ++ textS (js.drop (p.1 + 1))) := by
    rw [← textS_cons, ← textS_app]
    congr 1
    have : js.drop p.1 = j :: js.drop (p.1 + 1) := by
      rw [List.drop_eq_getElem_cons hlt]
      congr 1
      rw [List.getElem?_eq_getElem hlt] at h1
      exact Option.some.inj h1
    rw [← this, List.take_append_drop]
  have hl := (ln_len hj0).1
  constructor
  · unfold posS lenS
    conv => lhs; rw [e]
    rw [List.take_length_add_append, (ln_split hj0).1, List.append_assoc, List.take_append_of_le_length h2]
  · unfold posS lenS
    rw [e, List.length_append, List.length_append]
    omega
theorem take_noNl {j n : Nat} (h : j < 27) : 10 ∉ vl ((lnT j).take n) := fun hm => lnT_noNl h (by
  unfold vl at hm ⊢
  rw [List.map_take] at hm
  exact List.mem_of_mem_take hm)
/-- the lines, as the law writes them -/
def litS : List Str := ["x = 1", "if a:", "  b", "else:", "while x: break", "def f(a, b):", "  return x", "    pass", "try:", "except e:", "finally: y", "f(a, b=1)[0].c", "(x,", "  y)", "$\"a{b}c\"", "'''s", "t'''", "x \\", "+ y", "# c", "", "  # d", "for i in z:", "  break", "elif (1 <= 2):", "{a: [], 'b': -c}", "  if not d: e; f"]
theorem litS_eq : litS = (List.range 27).map fun j => toS (lnT j) := by decide +kernel
theorem litS_at {j : Nat} (h : j < 27) : (litS.map V.str)[j]? = some (lnV j) := by
  rw [litS_eq, List.getElem?_map, List.getElem?_map, List.getElem?_range h]
  rfl
/-- the first line of a drawn text -/
def head1 (ks : List Nat) : Nat := ks.headD 20
theorem head1_lt {ks : List Nat} (h : Lines ks) : head1 ks < 27 := by
  cases ks with
  | nil => decide
  | cons k ks => exact h k (List.mem_cons_self ..)
theorem empty_line : lnT 20 = [] ∧ ln 20 = [c10] := by constructor <;> kernel_rfl
theorem rough_split {ks : List Nat} (h : Lines ks) : ∃ r, Txt.split (toS (textS ks) ++ "\n") "\n" = toS (lnT (head1 ks)) :: r := by
  have e1 : (toS (textS ks) ++ "\n" : Str) = toS (textS (ks ++ [20]) ++ []) := by
    have : ("\n" : Str) = toS (ln 20) := by rw [empty_line.2]; decide +kernel
    rw [List.append_nil, textS_app, this, toS_app]
    congr 2
  rw [e1, split_lines (fun i hi => by
    rcases List.mem_append.mp hi with z | z
    · exact h i z
    · rw [List.mem_singleton.mp z]; decide) (by exact List.not_mem_nil)]
  cases ks with
  | nil => exact ⟨_, rfl⟩
  | cons k ks => exact ⟨_, rfl⟩
end Rp
namespace Rp
open PySem PySem.Spec PyProof.Rows L2
section
variable {P : Program} {w : World} {K : PySem.W.Frag} {mg : Str → Option Value} {base : Heap} {T : Cl}
theorem DrawS.mono {H : Hp} {d la : Addr} {m m' : Nat} (h : DrawS H d la m) (hm : m ≤ m') : DrawS H d la m' := by
  obtain ⟨cells, a, l, u, h1, h2, h3, h4, h5, h6, h7, h8, h9⟩ := h.ex
  exact ⟨cells, a, l, u, h1, h2, h3, h4, h5, by omega, h7, h8, by omega⟩
theorem DrawS.kp {H H' : Hp} {d la : Addr} {m : Nat} {fp : List Addr} (h : DrawS H d la m) (k : Kp fp H H') (n1 : d ∉ fp) (n2 : la ∉ fp) : DrawS H' d la m := by
  obtain ⟨cells, a, l, u, h1, h2, h3, h4, h5, h6, h7, h8, h9⟩ := h.ex
  exact ⟨cells, a, l, u, k _ _ h1 n1, k _ _ h2 n2, h3, h4, h5, h6, h7, h8, h9⟩
theorem DrawS.same {H H' : Hp} {d la : Addr} {m : Nat} (h : DrawS H d la m) (s : Same H H') : DrawS H' d la m := h.kp (Kp.of (fp := []) s) List.not_mem_nil List.not_mem_nil
def spRough : Sp := fun vs H Q _ => ∃ d la m, vs = [.ref d, .int 3] ∧ DrawS H d la m ∧ m + 10 < 2 ^ 40 ∧ d ≠ la ∧ ∀ H' ks, Kp [d] H H' → Lines ks → ks.length ≤ 3 → DrawS H' d la (m + 4) → Q (.str (toS (textS ks))) H'
theorem ok_rough (W : HW P w K mg base T) : FnR P w K mg base CX0 34 (He.fAd K ("_law_rough", none)) spRough := by
  have nd := hc_law_rough.nd
  have hkp := (W.hd e_law_next (List.mem_of_getElem? (i := 5) rfl)).choose_spec.kp
  refine hand_R (hand_fn (d := e_law_rough) (W.hd _ (List.mem_of_getElem? (i := 6) rfl)) rfl rfl hc_law_rough (fun vs H Q E h => ?_) (fun _ _ _ _ _ _ us hl => match us, hl with | [_, _], _ => by kernel_rfl)
    fun cdv A outer s H vs Q E hr h => ⟨_, PSs.nox (
      pss_cons (ps_set (i := 2) nd rfl (Or.inr rfl) (pe_lst (pa_cons pe_str (pa_cons pe_str (pa_cons pe_str (pa_cons pe_str (pa_cons pe_str (pa_cons pe_str (pa_cons pe_str (pa_cons pe_str (pa_cons pe_str pa_nil)))))))))))
      (pss_cons (ps_set (i := 2) nd rfl (Or.inr rfl) (pe_op op_cat (pv 2) (pe_lst (pa_cons pe_str (pa_cons pe_str (pa_cons pe_str (pa_cons pe_str (pa_cons pe_str (pa_cons pe_str (pa_cons pe_str (pa_cons pe_str (pa_cons pe_str pa_nil))))))))))))
      (pss_cons (ps_set (i := 2) nd rfl (Or.inr rfl) (pe_op op_cat (pv 2) (pe_lst (pa_cons pe_str (pa_cons pe_str (pa_cons pe_str (pa_cons pe_str (pa_cons pe_str (pa_cons pe_str (pa_cons pe_str (pa_cons pe_str pa_nil)))))))))))
      (pss_cons (ps_expr (pe_bm PySem.F.plainAttrs_list PySem.F.slot_list_append PySem.F.type_list_append mt_append (pv 2) (pa_cons pe_str pa_nil)))
      (pss_one (ps_ret (pe_join pe_str (pe_lc (own := [("_law_k", 3)]) (g := gName 3) (tt := tYes) rfl nd (pi_range1 rfl (W.free _ (by decide)) (pa_cons (pe_callR (E := E0) (ok_next W) hr rfl (W.glo _ (by decide)) hkp pass0 (pa_cons (pv 0) (pa_cons (pe_op op_add (pv 1) pe_int) pa_nil)) rfl rfl) pa_nil))
        (blkOk_by (own := [("_law_k", 3)]) (N := H_law_rough) (sc := defScope h_law_rough) (by decide +kernel)) (fun _ _ _ _ _ => pg_name (i := 3) nd rfl (Or.inl rfl)) (fun _ _ _ _ _ => pts_nil)
        (fun _ _ _ _ _ => pe_op op_add_str (pe_ix (show IxR _ (rIxL K) from ix_list) (pv 2) (pe_callR (E := E0) (ok_next W) hr rfl (W.glo _ (by decide)) hkp pass0 (pa_cons (pv 0) (pa_cons pe_int pa_nil)) rfl rfl) (fun _ _ => rfl)) pe_str))))))))), ?_⟩)
  · obtain ⟨d, la, m, rfl, _⟩ := h
    rfl
  · obtain ⟨d, la, m, rfl, hD, hm, hdl, hQ⟩ := h
    refine ⟨by show 9 ≤ sizeLine; decide, fun l1 n1 => ?_⟩
    have s1 := same_new (o := .lst ((litS.take 9).map V.str)) n1
    refine ⟨_, rfl, by show 9 ≤ sizeLine; decide, fun l2 n2 => ?_⟩
    have s2 := same_new (o := .lst (((litS.drop 9).take 9).map V.str)) n2
    refine ⟨l1, l2, _, _, rfl, rfl, s2 _ _ upd_same, upd_same, by show 9 + 9 ≤ sizeLine; decide, fun l3 n3 => ?_⟩
    have s3 := same_new (o := .lst ((litS.take 18).map V.str)) n3
    refine ⟨_, rfl, by show 8 ≤ sizeLine; decide, fun l4 n4 => ?_⟩
    have s4 := same_new (o := .lst (((litS.drop 18).take 8).map V.str)) n4
    refine ⟨l3, l4, _, _, rfl, rfl, s4 _ _ upd_same, upd_same, by show 18 + 8 ≤ sizeLine; decide, fun l5 n5 => ?_⟩
    have s5 := same_new (o := .lst ((litS.take 26).map V.str)) n5
    refine ⟨_, rfl, .inl ⟨rfl, _, SqL.of upd_same⟩, ?_⟩
    refine ⟨l5, _, _, rfl, rfl, upd_same, by show 26 < sizeLine; decide, ?_⟩
    generalize hH5 : upd (upd (upd (upd (upd (upd H l1 _) l2 _) l3 _) l4 _) l5 _) l5 _ = H5
    have h5 : H5 l5 = some (.lst (litS.map V.str)) := by rw [← hH5, upd_same]; rfl
    have sm : Same H H5 := by
      intro y o e
      have e4 := s4 _ _ (s3 _ _ (s2 _ _ (s1 _ _ e)))
      rw [← hH5, upd_ne (ne_of_none e4 n5)]
      exact s5 _ _ e4
    have hd5 : d ≠ l5 := by
      obtain ⟨cells, a, l, u, q1, _⟩ := hD.ex
      exact ne_of_none (s4 _ _ (s3 _ _ (s2 _ _ (s1 _ _ q1)))) n5
    refine ⟨⟨_, rfl⟩, _, rfl, _, rfl, _, _, rfl, rfl, d, la, 4, m, rfl, hD.same sm, by decide, by decide, by omega, hdl, fun H6 r k6 D6 r0 r1 => ?_⟩
    refine ⟨r, rfl, by omega, by omega, fun D hDn => ?_⟩
    have h6 := k6 _ _ h5 (fun z => hd5 (List.mem_singleton.mp z).symm)
    have hd6 : d ≠ D := by
      obtain ⟨cells, a, l, u, q1, _⟩ := D6.ex
      exact ne_of_none q1 hDn
    have hl6 : la ≠ D := by
      obtain ⟨cells, a, l, u, _, q1, _⟩ := D6.ex
      exact ne_of_none q1 hDn
    refine lc_range (lo := 0) (n := r.toNat) (fun i H' => ∃ ks : List Nat, ks.length = i ∧ Lines ks ∧ H' D = some (.lst (ks.map lnNV)) ∧ Kp [d] H6 H' ∧ DrawS H' d la (m + 1 + i)) ?_ ?_ ?_
    · exact ⟨[], rfl, (fun i hi => absurd hi List.not_mem_nil), upd_same, Kp.of (same_new hDn), D6.same (same_new hDn)⟩
    · rintro i H7 hi ⟨ks, hk1, hk2, hk3, hk4, hk5⟩
      refine ⟨rfl, ?_⟩
      unfold tYes
      simp only [if_true]
      refine ⟨_, rfl, _, rfl, d, la, 27, m + 1 + i, rfl, hk5, by decide, by decide, by omega, hdl, fun H8 x k8 D8 x0 x1 => ?_⟩
      obtain ⟨j, rfl⟩ : ∃ j : Nat, x = (j : Int) := ⟨x.toNat, (Int.toNat_of_nonneg x0).symm⟩
      have hj : j < 27 := by omega
      have h7 := hk4 _ _ h6 (fun z => hd5 (List.mem_singleton.mp z).symm)
      have h8 := k8 _ _ h7 (fun z => hd5 (List.mem_singleton.mp z).symm)
      refine ⟨l5, _, _, _, rfl, rfl, SqL.of h8, atI_nat (litS_at hj), _, _, rfl, rfl, by rw [toS_len, sizeLine_eq]; have := (ln_split hj).2; show _ + 1 ≤ _; omega, ?_⟩
      refine ⟨ks.map lnNV, k8 _ _ hk3 (fun z => hd6 (List.mem_singleton.mp z).symm), by rw [List.length_map, sizeLine_eq]; omega, ks ++ [j], by rw [List.length_append, hk1]; rfl, ?_, ?_, ?_, ?_⟩
      · intro y hy
        rcases List.mem_append.mp hy with z | z
        · exact hk2 y z
        · rw [List.mem_singleton.mp z]; exact hj
      · rw [upd_same, List.map_append]
        congr 3
        rw [← lnNV_eq hj]
        rfl
      · intro y o e hy
        rw [upd_ne (fun z => by rw [z, hDn] at e; cases e)]
        exact k8 _ _ (hk4 _ _ e hy) hy
      · exact DrawS.kp (fp := [D]) (D8.mono (by omega)) (Kp.upd (Kp.refl _ _) (List.mem_cons_self ..)) (fun z => hd6 (List.mem_singleton.mp z)) (fun z => hl6 (List.mem_singleton.mp z))
    · rintro H9 ⟨ks, hk1, hk2, hk3, hk4, hk5⟩
      have hkl : ks.length ≤ 3 := by omega
      refine ⟨toS [], D, (ks.map ln).map toS, rfl, rfl, .inl (.inl (.inl (by rw [hk3, List.map_map, List.map_map]; rfl))), join_sum hk2 (by omega), ?_⟩
      rw [join_text]
      exact hQ _ ks (fun y o e hy => hk4 _ _ (k6 _ _ (sm _ _ e) hy) hy) hk2 hkl (hk5.mono (by omega))
end
end Rp
namespace Rp
open PySem PySem.Spec PyProof.Rows L2
/-- a promise for calls from where no collection is being shown -/
def FnG (P : Program) (w : World) (K : PySem.W.Frag) (mg : Str → Option Value) (base : Heap) (k : Nat) (f : Addr) (sp : Sp) : Prop :=
  ∀ (A : Around) (out : List Env) (s : Shared) (H : Hp) (us : List Value) (vs : List V) (Q : VK) (E : XK), A.guards = some [] → Room k A → Env0 P w K mg base A out s H → Vals vs us → sp vs H Q E →
    codeAny (model P w) A (.call (.ref f) ⟨us, []⟩) (CR CX0 out P w H s Q E) s
section
variable {P : Program} {w : World} {K : PySem.W.Frag} {mg : Str → Option Value} {base : Heap}
theorem hand_G {d : He.DefD} {a : Addr} {N ps : List Str} {k : Nat} {sp : Sp} (D : ∃ fd, FunD K d.name d.qual d.params d.body d.scope (d.dvs K) (d.kws K) a fd) (hd : d.dfl = []) (hk : d.kwd = []) (S : FnScope N ps d.scope) (len : ∀ vs H Q E, sp vs H Q E → vs.length = ps.length)
    (hb : ∀ (kV doc pm : Value) (an : Option Addr) (cdv ct : Value) (us : List Value), us.length = ps.length → bindArgs (PySem.W.fnOf d.name d.qual d.params d.body d.scope .none kV doc pm an cdv ct) ⟨us, []⟩ = pure (ps.zip us))
    (hbody : ∀ (cdv : Value) (A : Around) (out : List Env) (s : Shared) (H : Hp) (vs : List V) (Q : VK) (E : XK), A.guards = some [] → Room k (A.deeper (envOfC d.qual d.scope s.heap.objs.size a cdv)) → sp vs H Q E →
      ∃ t, PSs (cxOf CX0 P w K mg base N d.qual d.scope a cdv A out s H E) d.body t ∧ t { nx := fun _ H' => Q .non H', rt := Q } (L2.start N vs) H) : FnG P w K mg base (k + 1) a sp := by
  obtain ⟨fd, D⟩ := D
  have e1 : d.dvs K = [] := by unfold He.DefD.dvs; rw [hd]; rfl
  have e2 : d.kws K = [] := by unfold He.DefD.kws; rw [hk]; rfl
  rw [e1, e2] at D
  have bd := D.bindsN hb
  obtain ⟨oc, od, dV, kV, doc, pm, an, cdv, ct, osl, rfl, lk, hcd, hD, hK⟩ := D.ex
  intro A out s H us vs Q E hg hr e0 rel hsp
  have kin : K.In s.heap := e0.mod.kin.keeps fun b o z => (e0.bs b o z).1
  have nol : s.heap.NoLimit := e0.mod.nolimit.keeps fun b o z => (e0.bs b o z).1
  have hvs := len _ _ _ _ hsp
  have hus : (us ++ ([] : List Value)).length = ps.length := by rw [List.append_nil, ← rel.length]; exact hvs
  have bnd := bd s us kin hus
  rw [List.append_nil] at bnd
  refine codeAny_call_function hr.depth (kin _ _ lk) rfl S.co S.gen rfl (PySem.W.codeRec_of kin hcd) (bnd _ _ _ _ ?_)
  refine wpAny_newFunctionEnv_cells S.kind (fun z hz => ?_) fun env eenv s1 ic => ?_
  · obtain ⟨n, v⟩ := z
    rcases S.par n (List.of_mem_zip hz).1 with q | q
    · exact .inl q
    · exact .inr ⟨q, PySem.W.cellsFrom_some _ _ _ (.inl q)⟩
  subst eenv
  refine ⟨nol.keeps ic.toInCall.keep, codeAny_func ?_⟩
  obtain ⟨t, ht, hq⟩ := hbody cdv A out s H vs Q E hg (hr.deeper _) hsp
  have I0 : Inv (cxOf CX0 P w K mg base N d.qual d.scope a cdv A out s H E) [] (L2.start N vs) H s1 := inv_start S hr.hd e0 hvs rel ic
  refine wpAny_mono (ht.run [] s1 (L2.start N vs) H _ I0 hq) (fun fl s' hs => ?_) fun e s' hs => hs
  match fl, hs with
  | .ret u, ⟨v, σ2, H2, J, rv, q⟩ => exact ⟨v, H2, J.os, J.bare, J.base, J.hok, rv, q⟩
  | .next, ⟨σ2, H2, J, q⟩ => exact ⟨.non, H2, J.os, J.bare, J.base, J.hok, rfl, q⟩
  | .brk, ⟨_, _, _, q⟩ => exact False.elim q
  | .cont, ⟨_, _, _, q⟩ => exact False.elim q
end
section
variable {X : Cx} {k : Nat} {f : Addr} {sp : Sp} {x : Str} {p pos : Pos} {e : Expr} {es : List Expr} {t : TA}
theorem pe_callG (F : FnG X.prog X.w X.K X.mg X.base k f sp) (hgd : X.A.guards = some []) (hr : Room k X.A) (hg : Gl X x) (hm : X.mg x = some (.ref f)) (hk : PySem.W.keepIn X.K (.ref f) = true) (ha : PA X (e :: es) t)
    (hdb : (x == ("__debug__" : Str)) = false) (he : starEach (e :: es) X.env = (false, eval e X.env) :: starEach es X.env) (hpl : (backTo pos (starEach es X.env)).any (·.1) = false) :
    PE X (.Call (.Name x p) (e :: es) [] pos) (fun σ H Q => t σ H fun vs H1 => sp vs H1 Q E0) := by
  refine ⟨fun pins s σ H Q I h => wpAny_Call_Name_kw (ld_glob I hg hm ?_ hdb)⟩
  refine PySem.W.callWith_K (h₀ := X.base) I.ok.mod.kin hk (thn (ha.run pos pins s σ H _ I h) fun us s1 ⟨vs, H1, I1, rel, q⟩ => ⟨I1.kIn, wpAny_call (codeAny_mono (F X.A X.stack s1 H1 us vs Q E0 hgd hr I1.env0 rel q) fun r s' hq => ?_)⟩) he hpl
  match r, hq with
  | .error e, hq => exact False.elim (pass0 (X := X.nox) pins σ H1 s1 e s' (I1.wish _) hq)
  | .ok (.ret u), hq => exact I1.after hq
/-- repr of data -/
theorem call_reprD (hgd : X.A.guards = some []) (hu : X.A.units + 40 < cLine) : CallR X (.builtin "repr") (fun xs H Q => ∃ a d, xs = [.ref a] ∧ Dp X.K H (.ref a) d ∧ d.showable = true ∧ d.hasDict = false ∧ d.depth ≤ 10 ∧ d.shown.length ≤ sizeLine ∧ Q (.str d.shown) H) := by
  intro pins s σ H xs us Q I rel h
  obtain ⟨a, d, rfl, hd, h1, h2, h3, h4, q⟩ := h
  obtain ⟨u, rfl, ru⟩ := vals1 rel
  obtain rfl : u = Value.ref a := ru
  obtain ⟨as, rd⟩ := Dp.reads I d _ _ hd (show L2.RelV (.ref a) (.ref a) from rfl)
  exact repr_of_reads' rd h1 (PyData.noDict_hsm h2) hgd (by omega) (fun _ _ z => z) (fun h' v tk hk => ⟨.str d.shown, H, I.kept (t' := tk) hk, ⟨v, rfl⟩, q⟩) h4
end
end Rp
namespace Rp
open PySem PySem.Spec PyProof.Rows L2
def lnP (j : Nat) : PyData := .str (toS (lnT j))
def spotP : Sum LS (Nat × Nat) → PyData
  | .inl _ => .none
  | .inr p => .tuple [.int p.1, .int p.2]
def showP (js : List Nat) : PyData := .list [.tuple (js.map lnP), spotP (runS s0 js), .str (prmt js)]
theorem repr_line : ((List.range 27).all fun j => Nat.ble (reprText (toS (lnT j))).length 60) = true := by decide +kernel
theorem repr_prompt (js : List Nat) : (reprText (prmt js)).length ≤ 60 := by
  have h : (reprText ">>> ").length ≤ 60 ∧ (reprText "!!! ").length ≤ 60 ∧ (reprText "... ").length ≤ 60 := by decide +kernel
  unfold prmt
  split
  · exact h.1
  · split
    · exact h.2.1
    · exact h.2.2
theorem lines_show : ∀ {js : List Nat}, Lines js → PyData.showableAll (js.map lnP) = true ∧ PyData.hasDictAll (js.map lnP) = false ∧ PyData.depthAll (js.map lnP) = 0 ∧ ((PyData.shownAll (js.map lnP)).map (·.length)).sum ≤ 60 * js.length ∧ (PyData.shownAll (js.map lnP)).length = js.length
  | [], _ => ⟨rfl, rfl, rfl, Nat.le_refl _, rfl⟩
  | j :: js, h => by
    obtain ⟨h1, h2, h3, h4, h5⟩ := lines_show (lines_tail h)
    have hj : j < 27 := h j (List.mem_cons_self ..)
    have hr := Nat.le_of_ble_eq_true (List.all_eq_true.mp repr_line j (List.mem_range.mpr hj))
    rw [List.map_cons]
    unfold lnP
    refine ⟨?_, ?_, ?_, ?_, ?_⟩
    · simp only [PyData.showableAll, PyData.showable, Bool.true_and]
      exact h1
    · simp only [PyData.hasDictAll, PyData.hasDict, Bool.false_or]
      exact h2
    · simp only [PyData.depthAll, PyData.depth]
      exact (Nat.max_eq_right (Nat.zero_le _)).trans h3
    · simp only [PyData.shownAll, PyData.shown, List.map_cons, List.sum_cons, List.length_cons]
      have h4' : ((PyData.shownAll (js.map fun j => PyData.str (toS (lnT j)))).map (·.length)).sum ≤ 60 * js.length := h4
      omega
    · simp only [PyData.shownAll, List.length_cons]
      exact congrArg Nat.succ h5
theorem spot_show {js : List Nat} (hj : Lines js) (hl : js.length ≤ 10) : (spotP (runS s0 js)).showable = true ∧ (spotP (runS s0 js)).hasDict = false ∧ (spotP (runS s0 js)).depth ≤ 1 ∧ (spotP (runS s0 js)).shown.length ≤ 100 := by
  cases er : runS s0 js with
  | inl t => exact ⟨rfl, rfl, Nat.zero_le _, (by decide +kernel : (PyData.shown .none).length ≤ 100)⟩
  | inr p =>
    obtain ⟨j, h1, h2⟩ := runS_pos s0_ok hj er
    have hlt : p.1 < js.length := (List.getElem?_eq_some_iff.mp h1).1
    have h3 := (ln_split (hj j (List.mem_of_getElem? h1))).2
    have a1 : (p.1 : Int).natAbs < 10 ^ 12 := by rw [Int.natAbs_natCast]; omega
    have a2 : (p.2 : Int).natAbs < 10 ^ 12 := by rw [Int.natAbs_natCast]; omega
    have b1 := PyData.shown_int_le a1
    have b2 := PyData.shown_int_le a2
    have lg : ∀ n : Nat, n < 10 ^ 12 → (n : Int).natAbs.log2 < 1920 := fun n hn => by
      rw [Int.natAbs_natCast]
      have : n.log2 ≤ n := Nat.log2_le_self n
      by_cases h0 : n = 0
      · rw [h0]; decide
      · exact (Nat.log2_lt h0).mpr (Nat.lt_of_lt_of_le hn (by
          calc (10 : Nat) ^ 12 ≤ 2 ^ 40 := by decide
            _ ≤ 2 ^ 1920 := Nat.pow_le_pow_right (by decide) (by decide)))
    refine ⟨?_, rfl, ?_, ?_⟩
    · simp only [spotP, PyData.showable, PyData.showableAll, Bool.and_true, Bool.and_eq_true, decide_eq_true_eq]
      exact ⟨lg _ (by omega), lg _ (by omega)⟩
    · simp [spotP, PyData.depth, PyData.depthAll]
    · have e : (spotP (.inr p)).shown = tupleText [PyData.shown (.int p.1), PyData.shown (.int p.2)] := by simp only [spotP, PyData.shown, PyData.shownAll]
      rw [e]
      have h := tupleText_len_le [PyData.shown (.int p.1), PyData.shown (.int p.2)]
      simp only [List.map_cons, List.map_nil, List.sum_cons, List.sum_nil, List.length_cons, List.length_nil] at h
      omega
theorem show_ok {js : List Nat} (hj : Lines js) (hl : js.length ≤ 10) : (showP js).showable = true ∧ (showP js).hasDict = false ∧ (showP js).depth ≤ 10 ∧ (showP js).shown.length ≤ sizeLine := by
  obtain ⟨a1, a2, a3, a4, a5⟩ := lines_show hj
  obtain ⟨b1, b2, b3, b4⟩ := spot_show hj hl
  have c4 := repr_prompt js
  refine ⟨?_, ?_, ?_, ?_⟩
  · simp only [showP, PyData.showable, PyData.showableAll, a1, b1, Bool.and_self]
  · simp only [showP, PyData.hasDict, PyData.hasDictAll, a2, b2, Bool.or_self]
  · simp only [showP, PyData.depth, PyData.depthAll, a3]
    omega
  · have e : (showP js).shown = listText [tupleText (PyData.shownAll (js.map lnP)), (spotP (runS s0 js)).shown, reprText (prmt js)] := by simp only [showP, PyData.shown, PyData.shownAll]
    rw [e]
    have h := listText_len_le [tupleText (PyData.shownAll (js.map lnP)), (spotP (runS s0 js)).shown, reprText (prmt js)]
    simp only [List.map_cons, List.map_nil, List.sum_cons, List.sum_nil, List.length_cons, List.length_nil] at h
    have h2 := tupleText_len_le (PyData.shownAll (js.map lnP))
    rw [a5] at h2
    rw [sizeLine_eq]
    omega
section
variable {P : Program} {w : World} {K : PySem.W.Frag} {mg : Str → Option Value} {base : Heap} {T : Cl}
theorem dp_lines {H : Hp} : ∀ (js : List Nat), DpAll K H (js.map lnV) (js.map lnP)
  | [] => .nil
  | j :: js => .cons (.str _) (dp_lines js)
theorem dp_spot {H : Hp} {v : V} {r : Sum LS (Nat × Nat)} (h : Rep K T H v (spotD r)) : Dp K H v (spotP r) := by
  cases r with
  | inl t =>
    cases rep_non h
    exact .non
  | inr p =>
    obtain ⟨q, vs, rfl, hq, hr⟩ := rep_tup h
    cases hr with
    | cons a b => cases b with
      | cons b c =>
        cases c
        cases rep_int a
        cases rep_int b
        exact .tup hq (.cons (.int _) (.cons (.int _) .nil))
mutual
theorem Dp.same {H H' : Hp} (s : Same H H') : ∀ {v : V} {d : PyData}, Dp K H v d → Dp K H' v d
  | _, _, .non => .non
  | _, _, .bl b => .bl b
  | _, _, .int i => .int i
  | _, _, .str x => .str x
  | _, _, .lst h r => .lst (s.seq h) (DpAll.same s r)
  | _, _, .tup h r => .tup (sqT_same s h) (DpAll.same s r)
theorem DpAll.same {H H' : Hp} (s : Same H H') : ∀ {vs : List V} {ds : List PyData}, DpAll K H vs ds → DpAll K H' vs ds
  | _, _, .nil => .nil
  | _, _, .cons a b => .cons (Dp.same s a) (DpAll.same s b)
end
theorem eqStrs : ∀ (l : List (List Ch)), zipSc (l.map D.str) (l.map D.str) = some true
  | [] => rfl
  | a :: l => by
    rw [List.map_cons]
    show (match eqSc (.str a) (.str a), zipSc (l.map D.str) (l.map D.str) with
      | some x, some y => some (x && y)
      | _, _ => none) = some true
    rw [eqStrs l, show eqSc (.str a) (.str a) = some (beqS a a) from rfl, beqS_iff.mpr rfl]
    rfl
theorem eqKept (l : List (List Ch)) : appOp .eq (.lst (l.map D.str)) (.lst (l.map D.str)) = some (.bl true) := by
  show (match Nat.beq (l.map D.str).length (l.map D.str).length with
    | true => zipSc (l.map D.str) (l.map D.str)
    | false => some false).map D.bl = _
  rw [Nat.beq_eq.mpr rfl, eqStrs l]
  rfl
theorem repLn {H : Hp} : ∀ (l : List Nat), RepL K T H (l.map lnV) (lnsD l)
  | [] => .nil
  | a :: l => .cons (.str _) (repLn l)
end
end Rp
namespace Rp
open PySem PySem.Spec PyProof.Rows L2
section
variable {P : Program} {w : World} {K : PySem.W.Frag} {mg : Str → Option Value} {base : Heap} {T : Cl}
theorem pass0S {X : Cx} : Passes (L2.CX X.prog X.w) X E0 := fun pins σ H s e s' _ c => by
  obtain ⟨a, B, H', cls, d, _, _, _, _, _, _, _, z⟩ := c
  exact False.elim z
theorem noStop0 {K : PySem.W.Frag} : NoStop K E0 := fun _ _ _ z => False.elim z
theorem asg_split {te : TE} {g : TG} {rest : TS} {D : Ends} {σ : L2.St} {H : Hp} (R : V → Hp → Prop) (h : ∀ Q2 : VK, (∀ v H', R v H' → Q2 v H') → te σ H Q2) (hQ : ∀ v H', R v H' → g v σ H' fun σ2 H2 => rest D σ2 H2) : tSeq (tAsg te g) rest D σ H := h _ hQ
theorem verd_ne (t : LS) : verd t ≠ tWrong := by
  have h : tComplete ≠ tWrong ∧ tEmpty ≠ tWrong ∧ tIncomplete ≠ tWrong := by decide
  match t with
  | .n 0 => exact h.2.1
  | .n 1 => exact h.1
  | .n (i + 2) => exact h.2.2
  | .b ks t => exact h.2.2
def spIsSo (K : PySem.W.Frag) (T : Cl) : Sp := fun vs H Q _ => ∃ c lw hi lk lr b ll js kept, vs = [.ref c, .ref lw, .ref hi, .ref lk] ∧ ConS K T H c hi lr b ll js kept (kept.length : Nat) ∧ H lw = some (.lst (js.map lnV)) ∧ H lk = some (.lst (kept.map txV)) ∧ kept.length ≤ 100 ∧ ∀ H', Same H H' → Q (.bl true) H'
theorem ok_is_so (W : HW P w K mg base T) : FnG P w K mg base 38 (He.fAd K ("_law_is_so", none)) (spIsSo K T) := by
  have nd := hc_law_is_so.nd
  obtain ⟨paw, hpw⟩ := prop_of W (c := "Console") (f := "waiting") (by decide)
  obtain ⟨fdw, Fw, Bw⟩ := ok_waiting W
  obtain ⟨pas, hps⟩ := prop_of W (c := "Console") (f := "spot") (by decide)
  obtain ⟨fds, Fs, Bs⟩ := ok_c_spot W
  obtain ⟨pap, hpp⟩ := prop_of W (c := "Console") (f := "prompt") (by decide)
  obtain ⟨fdp, Fp, Bp⟩ := ok_prompt W
  obtain ⟨pae, hpe⟩ := prop_of W (c := "Console") (f := "entered") (by decide)
  obtain ⟨fde, Fe, Be⟩ := ok_entered W
  obtain ⟨par, hpr⟩ := prop_of W (c := "Reading") (f := "verdict") (by decide)
  obtain ⟨fdr, Fr, Br⟩ := ok_r_verdict W
  obtain ⟨fdn, Fn, Bn⟩ := ok_newest W
  refine hand_G (d := e_law_is_so) (W.hd _ (List.mem_of_getElem? (i := 7) rfl)) rfl rfl hc_law_is_so (fun vs H Q E h => ?_) (fun _ _ _ _ _ _ us hl => match us, hl with | [_, _, _, _], _ => by kernel_rfl)
    fun cdv A outer s H vs Q E hgd hr h => by
      have hu : (A.deeper (envOfC e_law_is_so.qual e_law_is_so.scope s.heap.objs.size (He.fAd K ("_law_is_so", none)) cdv)).units + 40 < cLine := by have := hr.un; omega
      refine ⟨_, PSs.nox (
        pss_cons (ps_set (i := 4) nd rfl (Or.inl rfl) (pe_join pe_str (pe_lc (own := [("_law_one", 9)]) (g := gName 9) (tt := tYes) rfl nd (pi_list (pv 1)) (blkOk_by (own := [("_law_one", 9)]) (N := H_law_is_so) (sc := defScope h_law_is_so) (by decide +kernel)) (fun _ _ _ _ _ => pg_name (i := 9) nd rfl (Or.inl rfl)) (fun _ _ _ _ _ => pts_nil) (fun _ _ _ _ _ => pe_op op_add_str (pv 9) pe_str))))
        (pss_cons (ps_asg (pe_pu W (hr.mono (by decide)) rfl rfl (pa_cons (pv 4) pa_nil)) (pg_tup rfl (pgs_cons (pg_name (i := 5) nd rfl (Or.inl rfl)) (pgs_cons (pg_name (i := 6) nd rfl (Or.inl rfl)) pgs_nil))))
        (pss_cons (ps_set (i := 7) nd rfl (Or.inl rfl) (pe_ifExp (pt_cmpR op_notN (pv 6) pe_non (nomark _))
          (pe_tup (pa_cons (pe_m1 PySem.F.slot_str_count PySem.F.type_str_count mt_count (pe_slice sl_str (pv 4) po_none (po_some (pv 6))) pe_str)
            (pa_cons (pe_callB call_len_str (by rfl) (W.free _ (by decide)) PySem.boot_len (pa_cons (pe_ix ix_list (pe_split (pe_slice sl_str (pv 4) po_none (po_some (pv 6))) pe_str) (pe_un un_neg pe_int) (fun _ _ => rfl)) pa_nil)) pa_nil))) pe_non))
        (pss_cons (ps_set (i := 8) nd rfl (Or.inl rfl) (pe_ifExp (pt_cmpR op_notN (pv 6) pe_non (nomark _)) pe_str (pe_ifExp (pt_cmpR (op_eqR (T := T) hr.units0) (pv 1) (pe_lst pa_nil) (nomark _)) pe_str pe_str)))
        (pss_cons (ps_if (pt_cmpR op_ne
            (pe_callB (call_reprD hgd hu) (by rfl) (W.free _ (by decide)) PyProof.Rows.bootS_repr (pa_cons (pe_lst (pa_cons (pe_prop (CX := CX0) (E := E0) (pv 0) (W.cl (c := "Console") (by decide)) hpw Fw (hr.mono (by decide)) Bw .nil pass0 rfl)
              (pa_cons (pe_prop (CX := CX0) (E := E0) (pv 0) (W.cl (c := "Console") (by decide)) hps Fs (hr.mono (by decide)) Bs .nil pass0 rfl) (pa_cons (pe_prop (CX := CX0) (E := E0) (pv 0) (W.cl (c := "Console") (by decide)) hpp Fp (hr.mono (by decide)) Bp .nil pass0 rfl) pa_nil)))) pa_nil))
            (pe_callB (call_reprD hgd hu) (by rfl) (W.free _ (by decide)) PyProof.Rows.bootS_repr (pa_cons (pe_lst (pa_cons (pe_callTy call_tuple_of (by rfl) (W.free _ (by decide)) PyProof.Rows.boot_tuple (pa_cons (pv 1) pa_nil)) (pa_cons (pv 7) (pa_cons (pv 8) pa_nil)))) pa_nil)) (nomark _))
          (pss_one (ps_ret pe_bl)) pss_nil)
        (pss_cons (ps_if (pt_cmpR op_ne (pe_prop (CX := CX0) (E := E0) (StX.pe_makeR (E := E0) (W.mk_ "Reading" (by decide)) (ok_r_init W 1 (by decide)) (hr.mono (by decide)) rfl (W.mgc _ (by decide)) pass0 (pa_cons (pv 4) pa_nil)) (W.cl (c := "Reading") (by decide)) hpr Fr (hr.mono (by decide)) Br .nil pass0 rfl) (pv 5) (nomark _))
          (pss_one (ps_ret pe_bl)) pss_nil)
        (pss_one (ps_ret (pe_and (pe_cmpR (op_eqR (T := T) hr.units0) (pe_listG (E := E0) (pgen_meth (E := E0) (pv 2) (W.cl (c := "History") (by decide)) (meth_of W (by decide)) Fn (hr.mono (by decide)) Bn .nil (pa_cons (pe_callB call_len_seq (by rfl) (W.free _ (by decide)) PySem.boot_len (pa_cons (pv 3) pa_nil)) pa_nil)) pass0S noStop0 hr rfl (W.free _ (by decide)) PyProof.Rows.boot_list) (pe_revL (pv 3)) (nomark _))
          (pe_one (pe_cmpR op_eq (pe_prop (CX := CX0) (E := E0) (pv 0) (W.cl (c := "Console") (by decide)) hpe Fe (hr.mono (by decide)) Be .nil pass0 rfl) (pe_callB call_len_seq (by rfl) (W.free _ (by decide)) PySem.boot_len (pa_cons (pv 3) pa_nil)) (nomark _)))))))))))), ?_⟩
      obtain ⟨c, lw, hi, lk, lr, b, ll, js, kept, rfl, hC, hw, hk, hkl, hQ⟩ := h
      have hj := hC.buf.ok
      have hl := hC.buf.len
      obtain ⟨dxc, hc⟩ := hC.con
      obtain ⟨dxh, hh, hlr⟩ := hC.his
      refine ⟨⟨_, rfl⟩, _, rfl, lw, rfl, ⟨_, SqL.of hw⟩, fun D hD => ?_⟩
      refine lc_lines hj (by omega) (wks_list (SqL.of hw)) hD (fun a H' Q' ha q => ⟨_, rfl, _, _, rfl, rfl, by rw [sizeLine_eq]; show a.length + 1 ≤ _; omega, q⟩) fun H1 s1 hHD => ?_
      refine ⟨toS [], D, (js.map ln).map toS, rfl, rfl, .inl (.inl (.inl (by rw [hHD, List.map_map, List.map_map]; rfl))), join_sum hj hl, ?_⟩
      rw [join_text]
      refine ⟨_, rfl, [.str (textS js)], _, .cons (.str _) .nil, judged_ok 13 hj hl, fun v H2 s2 r2 => ?_⟩
      obtain ⟨q, vs2, rfl, hq, hr2⟩ := rep_tup r2
      cases hr2 with
      | cons ra rb => cases rb with
        | cons rb rn =>
          cases rn
          cases rep_str ra
          refine ⟨q, _, rfl, hq, rfl, _, _, rfl, _, _, rfl, rfl, ?_⟩
          dsimp only
          refine asg_split (fun sv H3 => Same H2 H3 ∧ Dp K H3 sv (spotP (runS s0 js))) (fun Q2 hQ2 => ?_) fun sv H3 ⟨s3, dp3⟩ => ?_
          · cases er : runS s0 js with
            | inl t =>
              rw [er] at rb
              cases rep_non rb
              refine ⟨_, rfl, rfl, false, rfl, iteF ?_⟩
              exact hQ2 _ _ ⟨Same.refl _, by rw [er]; exact .non⟩
            | inr p =>
              rw [er] at rb
              cases rep_int rb
              refine ⟨_, rfl, rfl, true, rfl, iteT ?_⟩
              obtain ⟨j, h1, h2⟩ := runS_pos s0_ok hj er
              have hj0 : j < 27 := hj j (List.mem_of_getElem? h1)
              obtain ⟨t1, t2⟩ := take_pos hj h1 h2
              have hk0 : Lines (js.take p.1) := fun i hi => hj i (List.mem_of_mem_take hi)
              have hlt : p.1 < js.length := (List.getElem?_eq_some_iff.mp h1).1
              have hln : ((js.take p.1).length : Int) = (p.1 : Int) := by rw [List.length_take]; omega
              have ecut : cutS (toS (textS js)) none (some ((posS js p : Nat) : Int)) = toS (textS (js.take p.1) ++ (lnT j).take p.2) := by rw [cut_text t2, t1]
              have efit : (toS (textS js)).length ≤ sizeLine := by
                have h3 := lines_len20 hj
                unfold lenS at h3
                rw [toS_len, sizeLine_eq]
                omega
              have ecl : (cutS (toS (textS js)) none (some ((posS js p : Nat) : Int))).length + 2 ≤ sizeLine := by
                have h3 := cutS_length (toS (textS js)) none (some ((posS js p : Nat) : Int))
                have h4 := lines_len20 hj
                unfold lenS at h4
                rw [toS_len] at h3
                rw [sizeLine_eq]
                omega
              have ecnt := count_lines hk0 (take_noNl (n := p.2) hj0)
              have espl := split_lines hk0 (take_noNl (n := p.2) hj0)
              refine ⟨_, rfl, ?_⟩
              unfold tNoPart
              refine ⟨_, rfl, _, rfl, _, rfl, efit, ⟨_, rfl⟩, _, _, rfl, rfl, ?_⟩
              refine ⟨_, rfl, ?_⟩
              refine ⟨_, rfl, _, rfl, _, rfl, efit, ⟨_, rfl⟩, _, _, rfl, rfl, by decide +kernel, ecl, fun a na => ?_⟩
              rw [ecut, ecnt, espl]
              refine ⟨1, rfl, a, _, -1, .str (toS ((lnT j).take p.2)), rfl, rfl, SqL.of upd_same, by rw [List.map_append]; exact atI_last _ _, ?_⟩
              have e2 : ((toS ((lnT j).take p.2)).length : Int) = (p.2 : Int) := by rw [toS_len, List.length_take]; omega
              refine ⟨_, rfl, by have := (ln_split hj0).2; rw [toS_len, sizeLine_eq, List.length_take]; omega, by show 2 ≤ sizeLine; decide, fun b nb => ?_⟩
              refine hQ2 _ _ ⟨(same_new na).trans (same_new nb), ?_⟩
              rw [er]
              refine .tup (.inl (.inl upd_same)) (.cons ?_ (.cons ?_ .nil))
              · rw [hln]; exact .int _
              · rw [e2]; exact .int _
          dsimp only [gName]
          refine asg_split (fun pv H4 => pv = .str (prmt js) ∧ Same H3 H4) (fun Q2 hQ2 => ?_) fun pv H4 ⟨epv, s4⟩ => ?_
          · cases er : runS s0 js with
            | inl t =>
              rw [er] at rb
              cases rep_non rb
              refine ⟨_, rfl, rfl, false, rfl, iteF ?_⟩
              refine ⟨_, rfl, by show 0 ≤ sizeLine; decide, fun a na => ?_⟩
              have sa := same_new (o := .lst []) na
              have hw3 := sa _ _ (s3 _ _ (s2 _ _ (s1 _ _ hw)))
              refine ⟨.lst (lnsD js), .lst [], .bl js.isEmpty, .lst (.inl hw3) (repLn js), .lst (.inl upd_same) .nil, by cases js <;> rfl, fun v5 H5 s5 r5 => ⟨_, rep_bl r5, ?_⟩⟩
              have sm5 := sa.trans s5
              have hnw : verdR (runS s0 js) ≠ tWrong := by
                rw [er]
                exact verd_ne t
              cases hb : js.isEmpty with
              | true =>
                have h0 : js.length = 0 := by rw [List.isEmpty_iff.mp hb]; rfl
                refine iteT (hQ2 _ _ ⟨?_, sm5⟩)
                unfold prmt
                rw [if_pos h0]
              | false =>
                have h0 : ¬ js.length = 0 := fun z => by rw [List.length_eq_zero_iff.mp z] at hb; cases hb
                refine iteF (hQ2 _ _ ⟨?_, sm5⟩)
                unfold prmt
                rw [if_neg h0, if_neg hnw]
            | inr p =>
              rw [er] at rb
              cases rep_int rb
              refine ⟨_, rfl, rfl, true, rfl, iteT (hQ2 _ _ ⟨?_, Same.refl _⟩)⟩
              obtain ⟨j, h1, h2⟩ := runS_pos s0_ok hj er
              have hlt : p.1 < js.length := (List.getElem?_eq_some_iff.mp h1).1
              unfold prmt
              rw [if_neg (by omega), if_pos (by rw [er]; rfl)]
          · subst epv
            have sm4 : Same H H4 := s1.trans (s2.trans (s3.trans s4))
            have hC4 := hC.same sm4
            have hw4 := sm4 _ _ hw
            have hk4 := sm4 _ _ hk
            dsimp only [gName]
            obtain ⟨g1, g2, g3, g4⟩ := show_ok hj hl
            refine ⟨_, rfl, c, dxc, _, rfl, sm4 _ _ hc, c, hi, lr, b, ll, js, kept, _, rfl, hC4, fun v1 K1 t1 r1 => ?_⟩
            obtain ⟨lt, rfl, r1⟩ := r1
            refine ⟨_, rfl, c, dxc, _, rfl, t1 _ _ (sm4 _ _ hc), c, hi, lr, b, ll, js, kept, _, rfl, hC4.same t1, fun v2 K2 t2 r2 => ?_⟩
            have sm12 := t1.trans t2
            refine ⟨_, rfl, c, dxc, _, rfl, sm12 _ _ (sm4 _ _ hc), c, hi, lr, b, ll, js, kept, _, rfl, hC4.same sm12, fun v3 K3 t3 r3 => ?_⟩
            have sm3 := sm12.trans t3
            have r3' : v3 = V.str (prmt js) := r3
            subst r3'
            refine ⟨by show 3 ≤ sizeLine; decide, fun a na => ?_⟩
            have sa := same_new (o := .lst [.ref lt, v2, .str (prmt js)]) na
            refine ⟨a, showP js, rfl, .lst (SqL.of upd_same) (.cons (.tup (sqT_same ((t2.trans t3).trans sa) r1) (dp_lines js)) (.cons (Dp.same (t3.trans sa) (dp_spot r2)) (.cons (.str _) .nil))), g1, g2, g3, g4, ?_⟩
            have sm5 := sm3.trans sa
            refine ⟨_, rfl, lw, _, rfl, .inl ⟨SqL.of (sm5 _ _ hw4), fun e ne => ?_⟩⟩
            have se := same_new (o := .tup (js.map lnV)) ne
            refine ⟨_, rfl, _, rfl, by show 3 ≤ sizeLine; decide, fun f nf => ?_⟩
            have sf := same_new (o := .lst [.ref e, sv, .str (prmt js)]) nf
            refine ⟨f, showP js, rfl, .lst (SqL.of upd_same) (.cons (.tup (.inl (.inl (sf _ _ upd_same))) (dp_lines js)) (.cons (Dp.same (s4.trans (sm5.trans (se.trans sf))) dp3) (.cons (.str _) .nil))), g1, g2, g3, g4, ?_⟩
            have sm6 := sm4.trans (sm5.trans (se.trans sf))
            refine ⟨rfl, _, rfl, iteNS rfl ?_⟩
            generalize hK : upd (upd (upd K3 a _) e _) f _ = K6 at sm6 ⊢
            refine ⟨_, rfl, fun x dx hx hdx hne => ?_⟩
            refine ⟨x, dx, js, rfl, upd_same, hj, hl, fun K7 k7 hR => ⟨rfl, ?_⟩⟩
            have sm7 : Same K6 K7 := fun y o z => by
              have y1 : y ≠ x := fun q => by rw [q, hx] at z; cases z
              have y2 : y ≠ dx := fun q => by rw [q, hdx] at z; cases z
              exact k7 y o (by rw [upd_ne y1, upd_ne y2]; exact z) fun q => y1 (List.mem_singleton.mp q)
            obtain ⟨dxr, fsr, hr7⟩ : ∃ dxr fsr, K7 x = some (.ins (cAd K "Reading") dxr fsr) := by
              obtain ⟨q1, q2, q3, q4, q5, _⟩ := hR
              exact ⟨_, _, q5⟩
            refine ⟨x, dxr, fsr, rfl, hr7, x, js, rfl, hR, fun K8 s8 => ?_⟩
            refine ⟨_, rfl, rfl, _, rfl, iteNS rfl ?_⟩
            have sm8 := sm6.trans (sm7.trans s8)
            have hC8 := hC.same sm8
            have hk8 := sm8 _ _ hk
            refine ⟨_, rfl, hi, dxh, _, rfl, sm8 _ _ hh, rfl, _, rfl, lk, _, rfl, .inl (SqL.of hk8), ?_⟩
            refine ⟨hi, lr, kept, by rw [List.length_map]; rfl, ⟨dxh, sm8 _ _ hh, sm8 _ _ hlr⟩, by omega, fun K9 s9 => ?_⟩
            refine fun u nu => ?_
            have su := same_new (o := .lst (kept.reverse.map txV)) nu
            refine ⟨_, rfl, lk, _, rfl, SqL.of (su _ _ (s9 _ _ hk8)), fun z nz => ?_⟩
            have sz := same_new (o := .lst (kept.map txV).reverse) nz
            refine ⟨.lst (kept.reverse.map .str), .lst (kept.reverse.map .str), .bl true, .lst (.inl (sz _ _ upd_same)) (repTx _), .lst (.inl upd_same) (by rw [← List.map_reverse]; exact repTx _), eqKept _, fun v10 K10 s10 r10 => ?_⟩
            cases rep_bl r10
            have sm10 := s9.trans (su.trans (sz.trans s10))
            refine ⟨true, rfl, iteT ?_⟩
            refine ⟨_, rfl, c, dxc, _, rfl, sm10 _ _ (sm8 _ _ hc), c, hi, lr, b, ll, js, kept, _, rfl, hC8.same sm10, fun v11 K11 s11 r11 => ?_⟩
            have r11' : v11 = V.int (kept.length : Nat) := r11
            subst r11'
            refine ⟨_, rfl, lk, _, rfl, .inl (SqL.of (s11 _ _ (sm10 _ _ hk8))), rfl, ?_⟩
            have ed : decide (V.int (kept.length : Nat) = V.int ((kept.map txV).length : Nat)) = true := decide_eq_true (by rw [List.length_map])
            rw [ed]
            exact hQ _ (sm8.trans (sm10.trans s11))
  · obtain ⟨c, lw, hi, lk, lr, b, ll, js, kept, rfl, _⟩ := h
    rfl
end
end Rp
namespace Rp
open PySem PySem.Spec PyProof.Rows L2
section
variable {P : Program} {w : World} {K : PySem.W.Frag} {mg : Str → Option Value} {base : Heap} {T : Cl}
theorem eq_word (r : List Ch) (z : Str) (t : List Ch) (e : z = toS t) : decide (V.str (toS r) = V.str z) = decide (r = t) := by
  rw [e]
  exact decide_eq_decide.mpr ⟨fun y => toS_inj (V.str.inj y), fun y => by rw [y]⟩
def spLSet (K : PySem.W.Frag) (T : Cl) : Sp := fun vs H Q _ => ∃ lw lk js kept, vs = [.ref lw, .ref lk] ∧ H lw = some (.lst (js.map lnV)) ∧ H lk = some (.lst (kept.map txV)) ∧ Lines js ∧ js.length ≤ 10 ∧ kept.length ≤ 100 ∧
  ∀ H' t lw' lk', Same H H' → (lw' = lw ∨ H lw' = none) → (lk' = lk ∨ H lk' = none) → H' lw' = some (.lst ((waitS js).map lnV)) → H' lk' = some (.lst ((keptS js kept).map txV)) → H' t = some (.tup [.str (toS (verdR (runS s0 js))), .ref lw', .ref lk']) → Q (.ref t) H'
theorem none_same {H H' : Hp} {x : Addr} (s : Same H H') (h : H' x = none) : H x = none := by
  cases e : H x with
  | none => rfl
  | some o => rw [s _ _ e] at h; cases h
theorem ok_lset (W : HW P w K mg base T) : FnR P w K mg base CX0 33 (He.fAd K ("_law_settled", none)) (spLSet K T) := by
  have nd := sc__law_settled.nd
  refine hand_R (hand_fn (d := d__law_settled) (W.dh.defs d__law_settled (List.mem_of_getElem? (i := 55) rfl)) rfl rfl sc__law_settled (fun vs H Q E h => ?_) (fun _ _ _ _ _ _ us hl => match us, hl with | [_, _], _ => by kernel_rfl)
    fun cdv A outer s H vs Q E hr h => ⟨_, PSs.nox (
      pss_cons (ps_set (i := 2) nd rfl (Or.inl rfl) (pe_join pe_str (pe_lc (own := [("_law_one", 4)]) (g := gName 4) (tt := tYes) rfl nd (pi_list (pv 0)) (blkOk_by (own := [("_law_one", 4)]) (N := N__law_settled) (sc := defScope s__law_settled) (by decide +kernel)) (fun _ _ _ _ _ => pg_name (i := 4) nd rfl (Or.inl rfl)) (fun _ _ _ _ _ => pts_nil) (fun _ _ _ _ _ => pe_op op_add_str (pv 4) pe_str))))
      (pss_cons (ps_set (i := 3) nd rfl (Or.inl rfl) (pe_ix ix_tup (pe_pu W hr rfl rfl (pa_cons (pv 2) pa_nil)) pe_int (fun _ _ => rfl)))
      (pss_cons (ps_if (pt_cmpR op_eq (pv 3) pe_str (nomark _)) (pss_one (ps_ret (pe_tup (pa_cons (pv 3) (pa_cons (pe_lst pa_nil) (pa_cons (pe_op op_cat (pv 1) (pe_lst (pa_cons (pv 2) pa_nil))) pa_nil)))))) pss_nil)
      (pss_one (ps_ret (pe_tup (pa_cons (pv 3) (pa_cons (pe_ifExp (pt_cmpR op_eq (pv 3) pe_str (nomark _)) (pe_lst pa_nil) (pv 0)) (pa_cons (pv 1) pa_nil)))))))))
      , ?_⟩)
  · obtain ⟨lw, lk, js, kept, rfl, _⟩ := h
    rfl
  · obtain ⟨lw, lk, js, kept, rfl, hw, hk, hj, hl, hkl, hQ⟩ := h
    refine ⟨⟨_, rfl⟩, _, rfl, lw, rfl, ⟨_, SqL.of hw⟩, fun D hD => ?_⟩
    refine lc_lines hj (by omega) (wks_list (SqL.of hw)) hD (fun a H' Q' ha q => ⟨_, rfl, _, _, rfl, rfl, by rw [sizeLine_eq]; show a.length + 1 ≤ _; omega, q⟩) fun H1 s1 hHD => ?_
    refine ⟨toS [], D, (js.map ln).map toS, rfl, rfl, .inl (.inl (.inl (by rw [hHD, List.map_map, List.map_map]; rfl))), join_sum hj hl, ?_⟩
    rw [join_text]
    refine ⟨_, rfl, [.str (textS js)], _, .cons (.str _) .nil, judged_ok 13 hj hl, fun v H2 s2 r2 => ?_⟩
    obtain ⟨q, vs2, rfl, hq, hr2⟩ := rep_tup r2
    cases hr2 with
    | cons ra rb =>
      cases rep_str ra
      refine ⟨q, _, 0, _, rfl, rfl, hq, atI_nat (j := 0) rfl, ?_⟩
      have sm := s1.trans s2
      refine ⟨_, rfl, rfl, _, rfl, ?_⟩
      rw [eq_word _ "complete" tComplete (by decide +kernel)]
      by_cases hc : verdR (runS s0 js) = tComplete
      · rw [decide_eq_true hc]
        refine iteT ?_
        refine ⟨_, rfl, by show 0 ≤ sizeLine; decide, fun a na => ?_⟩
        have sa := same_new (o := .lst []) na
        refine ⟨_, rfl, _, rfl, by show 1 ≤ sizeLine; decide, fun b nb => ?_⟩
        have sb := same_new (o := .lst [txV (textS js)]) nb
        have sm2 := sm.trans (sa.trans sb)
        refine ⟨lk, b, _, _, rfl, rfl, sm2 _ _ hk, upd_same, by rw [List.length_map, sizeLine_eq]; show _ + 1 ≤ _; omega, fun e ne => ?_⟩
        have se := same_new (o := .lst (kept.map txV ++ [txV (textS js)])) ne
        refine ⟨by show 3 ≤ sizeLine; decide, fun t nt => ?_⟩
        have st := same_new (o := .tup [.str (toS (verdR (runS s0 js))), .ref a, .ref e]) nt
        refine hQ _ t a e (sm2.trans (se.trans st)) (.inr (none_same sm na)) (.inr (none_same sm2 ne)) ?_ ?_ upd_same
        · rw [st _ _ (se _ _ (sb _ _ upd_same)), show waitS js = [] from if_pos (.inl hc)]
          rfl
        · rw [st _ _ upd_same, show keptS js kept = kept ++ [textS js] from if_pos hc, List.map_append]
          rfl
      · rw [decide_eq_false hc]
        refine iteF ?_
        refine ⟨_, rfl, _, rfl, rfl, _, rfl, ?_⟩
        rw [eq_word _ "empty" tEmpty (by decide +kernel)]
        have hkq : keptS js kept = kept := if_neg hc
        by_cases he : verdR (runS s0 js) = tEmpty
        · rw [decide_eq_true he]
          refine iteT ?_
          refine ⟨by show 0 ≤ sizeLine; decide, fun a na => ?_⟩
          have sa := same_new (o := .lst []) na
          refine ⟨_, rfl, by show 3 ≤ sizeLine; decide, fun t nt => ?_⟩
          have st := same_new (o := .tup [.str (toS (verdR (runS s0 js))), .ref a, .ref lk]) nt
          refine hQ _ t a lk (sm.trans (sa.trans st)) (.inr (none_same sm na)) (.inl rfl) ?_ ?_ upd_same
          · rw [st _ _ upd_same, show waitS js = [] from if_pos (.inr he)]
            rfl
          · rw [hkq]
            exact st _ _ (sa _ _ (sm _ _ hk))
        · rw [decide_eq_false he]
          refine iteF ?_
          refine ⟨_, rfl, _, rfl, by show 3 ≤ sizeLine; decide, fun t nt => ?_⟩
          have st := same_new (o := .tup [.str (toS (verdR (runS s0 js))), .ref lw, .ref lk]) nt
          refine hQ _ t lw lk (sm.trans st) (.inl rfl) (.inl rfl) ?_ ?_ upd_same
          · rw [show waitS js = js from if_neg (fun z => z.elim hc he)]
            exact st _ _ (sm _ _ hw)
          · rw [hkq]
            exact st _ _ (sm _ _ hk)
end
end Rp
namespace Rp
open PySem PySem.Spec PyProof.Rows L2
theorem seq_split {t rest : TS} {D : Ends} {σ : L2.St} {H : Hp} (R : L2.St → Hp → Prop) (h : ∀ N : L2.St → Hp → Prop, (∀ σ2 H', R σ2 H' → N σ2 H') → t { D with nx := N } σ H) (hQ : ∀ σ2 H', R σ2 H' → rest D σ2 H') : tSeq t rest D σ H := h _ hQ
theorem if_split {tt : TT} {ta tb : TS} {D : Ends} {σ : L2.St} {H : Hp} (A B : Hp → Prop) (ht : ∀ Q : Bool → Hp → Prop, (∀ H', A H' → Q true H') → (∀ H', B H' → Q false H') → tt σ H Q) (ha : ∀ H', A H' → ta D σ H') (hb : ∀ H', B H' → tb D σ H') : tIfS tt ta tb D σ H :=
  ht _ (fun H' a => iteT (ha H' a)) fun H' b => iteF (hb H' b)
theorem cut_m1 (xs : List V) : cutV xs none (some (-1)) = xs.dropLast := by
  unfold cutV
  have e : HT.sIx xs.length xs.length (some (-1)) = xs.length - 1 := by
    show (if (-1 : Int) < 0 then ((-1 : Int) + (xs.length : Int)).toNat else min (-1 : Int).toNat xs.length) = _
    rw [if_pos (by decide)]
    omega
  rw [HT.sIx_none, e, List.drop_zero, Nat.sub_zero, List.dropLast_eq_take]
theorem atI_m2 {α : Type} (xs : List α) (a b : α) : L2.atI (xs ++ [a, b]) (-2) = some a := by
  have hl : (xs ++ [a, b]).length = xs.length + 2 := by rw [List.length_append]; rfl
  unfold L2.atI
  have e : L2.ixN (xs ++ [a, b]).length (-2) = some xs.length := by
    unfold L2.ixN
    rw [if_neg (by decide), hl, if_pos (by omega)]
    congr 1
    omega
  rw [e]
  show (xs ++ [a, b])[xs.length]? = some a
  rw [List.getElem?_append_right (Nat.le_refl _), Nat.sub_self]
  rfl
theorem two_last {α : Type} (xs : List α) (h : 1 < xs.length) : ∃ ini a b, xs = ini ++ [a, b] := by
  obtain ⟨ys, b, rfl⟩ : ∃ ys b, xs = ys ++ [b] := ⟨xs.dropLast, xs.getLast (fun z => by rw [z] at h; cases h), (List.dropLast_concat_getLast _).symm⟩
  have h2 : ys ≠ [] := fun z => by
    rw [z, List.nil_append, List.length_singleton] at h
    exact absurd h (Nat.lt_irrefl 1)
  refine ⟨ys.dropLast, ys.getLast h2, b, ?_⟩
  have e := List.dropLast_concat_getLast h2
  rw [show ys.dropLast ++ [ys.getLast h2, b] = (ys.dropLast ++ [ys.getLast h2]) ++ [b] by rw [List.append_assoc]; rfl, e]
theorem kept_same {js : List Nat} {kept : List (List Ch)} (h : ∀ ini a b, keptS js kept = ini ++ [a, b] → a ≠ b) : keptA js kept = keptS js kept ∧ cntA js (kept.length : Nat) = ((keptS js kept).length : Nat) := by
  unfold keptA cntA keptS at *
  by_cases hc : verdR (runS s0 js) = tComplete
  · rw [if_pos hc] at h ⊢
    rw [if_pos hc, if_pos hc]
    refine ⟨?_, by rw [List.length_append]; rfl⟩
    unfold addK
    rw [if_neg fun z => ?_]
    obtain ⟨ys, rfl⟩ := List.getLast?_eq_some_iff.mp z
    exact h ys (textS js) (textS js) (by rw [List.append_assoc]; rfl) rfl
  · rw [if_neg hc] at h ⊢
    rw [if_neg hc, if_neg hc]
    exact ⟨rfl, rfl⟩
theorem wait_sub (js : List Nat) : (waitS js).length ≤ js.length ∧ (Lines js → Lines (waitS js)) := by
  unfold waitS
  split
  · exact ⟨Nat.zero_le _, fun _ i hi => absurd hi List.not_mem_nil⟩
  · exact ⟨Nat.le_refl _, id⟩
theorem keptS_len (js : List Nat) (kept : List (List Ch)) : (keptS js kept).length ≤ kept.length + 1 := by
  unfold keptS
  split
  · rw [List.length_append]; exact Nat.le_refl _
  · exact Nat.le_succ _
section
variable {P : Program} {w : World} {K : PySem.W.Frag} {mg : Str → Option Value} {base : Heap} {T : Cl}
theorem ConS.kinds {H : Hp} {c hi lr b ll : Addr} {js : List Nat} {kept : List (List Ch)} {n : Int} (h : ConS K T H c hi lr b ll js kept n) : (∃ C dx fs, H c = some (.ins C dx fs)) ∧ (∃ C dx fs, H hi = some (.ins C dx fs)) ∧ (∃ xs, H lr = some (.lst xs)) ∧ (∃ C dx fs, H b = some (.ins C dx fs)) ∧ ∃ xs, H ll = some (.lst xs) := by
  obtain ⟨⟨dx, h1⟩, ⟨dxh, g1, g2⟩, hB, hnd⟩ := h
  obtain ⟨dxb, tp, lt, sv, wk, tot, lv, hb1, _, _, h4, _⟩ := hB.ex
  exact ⟨⟨_, _, _, h1⟩, ⟨_, _, _, g1⟩, ⟨_, g2⟩, ⟨_, _, _, hb1⟩, ⟨_, h4⟩⟩
/-- the console is not touched by what is drawn -/
theorem ConS.draw (W : HW P w K mg base T) {H H' : Hp} {c hi lr b ll d : Addr} {js : List Nat} {kept : List (List Ch)} {n : Int} {kv : List (Key × V)} (h : ConS K T H c hi lr b ll js kept n) (hd : H d = some (.dK kv)) (k : Kp [d] H H') : ConS K T H' c hi lr b ll js kept n := by
  obtain ⟨⟨C1, x1, f1, k1⟩, ⟨C2, x2, f2, k2⟩, ⟨l3, k3⟩, ⟨C4, x4, f4, k4⟩, ⟨l5, k5⟩⟩ := h.kinds
  have ne : ∀ {y : Addr} {o : HO}, H y = some o → (∀ kv, o ≠ .dK kv) → y ∉ [d] := fun e q z => by
    rw [List.mem_singleton.mp z, hd] at e
    cases e
    exact q _ rfl
  obtain ⟨⟨dx, h1⟩, hH, hB, hnd⟩ := h
  refine ⟨⟨dx, k _ _ h1 (ne h1 fun _ z => nomatch z)⟩, hH.kp k (ne k2 fun _ z => nomatch z) (ne k3 fun _ z => nomatch z), hB.kp W k (ne k4 fun _ z => nomatch z) (ne k5 fun _ z => nomatch z) (fun y hy o e => ?_), hnd⟩
  rw [List.mem_singleton.mp hy, hd] at e
  cases e
  exact trivial
/-- the state between the turns -/
structure RtS (K : PySem.W.Frag) (T : Cl) (H : Hp) (d la c hi lr b ll lw lk : Addr) (js : List Nat) (kept : List (List Ch)) (m : Nat) : Prop where
  dr : DrawS H d la m
  con : ConS K T H c hi lr b ll js kept (kept.length : Nat)
  hw : H lw = some (.lst (js.map lnV))
  hk : H lk = some (.lst (kept.map txV))
  n1 : lw ≠ lr
  n2 : lk ≠ lr
  n3 : la ≠ lr
  n4 : d ≠ la
theorem RtS.same {H H' : Hp} {d la c hi lr b ll lw lk : Addr} {js : List Nat} {kept : List (List Ch)} {m : Nat} (h : RtS K T H d la c hi lr b ll lw lk js kept m) (s : Same H H') : RtS K T H' d la c hi lr b ll lw lk js kept m :=
  ⟨h.dr.same s, h.con.same s, s _ _ h.hw, s _ _ h.hk, h.n1, h.n2, h.n3, h.n4⟩
theorem RtS.draw (W : HW P w K mg base T) {H H' : Hp} {d la c hi lr b ll lw lk : Addr} {js : List Nat} {kept : List (List Ch)} {m m' : Nat} (h : RtS K T H d la c hi lr b ll lw lk js kept m) (k : Kp [d] H H') (hd : DrawS H' d la m') : RtS K T H' d la c hi lr b ll lw lk js kept m' := by
  obtain ⟨cells, a, l, u, h1, _⟩ := h.dr.ex
  have ne : ∀ {y : Addr} {xs : List V}, H y = some (.lst xs) → y ∉ [d] := fun e z => by
    rw [List.mem_singleton.mp z, h1] at e
    cases e
  exact ⟨hd, h.con.draw W h1 k, k _ _ h.hw (ne h.hw), k _ _ h.hk (ne h.hk), h.n1, h.n2, h.n3, h.n4⟩
/-- behind what the console was told -/
structure MdS (K : PySem.W.Frag) (T : Cl) (H : Hp) (d la c hi lr b ll lw lk : Addr) (js : List Nat) (kept : List (List Ch)) (m : Nat) : Prop where
  dr : DrawS H d la m
  con : ConS K T H c hi lr b ll (waitS js) (keptA js kept) (cntA js (kept.length : Nat))
  hw : H lw = some (.lst (js.map lnV))
  hk : H lk = some (.lst (kept.map txV))
  n1 : lw ≠ lr
  n2 : lk ≠ lr
  n3 : la ≠ lr
  n4 : d ≠ la
  lines : Lines js
theorem RtS.told {H H' : Hp} {d la c hi lr b ll lw lk : Addr} {js : List Nat} {kept : List (List Ch)} {m : Nat} (h : RtS K T H d la c hi lr b ll lw lk js kept m) {lw2 b' ll' : Addr} {js2 : List Nat} (e : H lw2 = some (.lst (js2.map lnV))) (ne2 : lw2 ≠ lr) (hj : Lines js2) (k : Kp [c, lr, b] H H')
    (hC : ConS K T H' c hi lr b' ll' (waitS js2) (keptA js2 kept) (cntA js2 (kept.length : Nat))) : MdS K T H' d la c hi lr b' ll' lw2 lk js2 kept m := by
  obtain ⟨⟨C1, x1, f1, k1⟩, ⟨C2, x2, f2, k2⟩, ⟨l3, k3⟩, ⟨C4, x4, f4, k4⟩, ⟨l5, k5⟩⟩ := h.con.kinds
  obtain ⟨cells, a, l, u, q1, q2, q3, q4, q5, q6, q7, q8, q9⟩ := h.dr.ex
  have ne : ∀ {y : Addr} {o : HO}, H y = some o → (∀ C dx fs, o ≠ .ins C dx fs) → y ≠ lr → y ∉ [c, lr, b] := fun {y o} e z1 z2 z => by
    rcases List.mem_cons.mp z with z | z
    · rw [z, k1] at e; cases e; exact z1 _ _ _ rfl
    · rcases List.mem_cons.mp z with z | z
      · exact z2 z
      · rw [List.mem_singleton.mp z, k4] at e; cases e; exact z1 _ _ _ rfl
  have hdl : d ≠ lr := fun z => by rw [z, k3] at q1; cases q1
  exact ⟨⟨cells, a, l, u, k _ _ q1 (ne q1 (fun _ _ _ z => nomatch z) hdl), k _ _ q2 (ne q2 (fun _ _ _ z => nomatch z) h.n3), q3, q4, q5, q6, q7, q8, q9⟩, hC, k _ _ e (ne e (fun _ _ _ z => nomatch z) ne2), k _ _ h.hk (ne h.hk (fun _ _ _ z => nomatch z) h.n2), ne2, h.n2, h.n3, h.n4, hj⟩
end
end Rp
namespace Rp
open PySem PySem.Spec PyProof.Rows L2
section
variable {P : Program} {w : World} {K : PySem.W.Frag} {mg : Str → Option Value} {base : Heap} {T : Cl}
theorem prmt_wrong {js : List Nat} (h : ¬ js.length = 0) : decide (V.str (prmt js) = V.str "!!! ") = decide (verdR (runS s0 js) = tWrong) := by
  have h1 : decide (V.str ">>> " = V.str "!!! ") = false ∧ decide (V.str "... " = V.str "!!! ") = false := ⟨decide_eq_false (fun z => absurd (V.str.inj z) (by decide +kernel)), decide_eq_false (fun z => absurd (V.str.inj z) (by decide +kernel))⟩
  unfold prmt
  rw [if_neg h]
  by_cases hw : verdR (runS s0 js) = tWrong
  · rw [if_pos hw, decide_eq_true hw]
    exact decide_eq_true rfl
  · rw [if_neg hw, decide_eq_false hw]
    exact h1.2
theorem nil_right : verdR (runS s0 []) ≠ tWrong := by decide
theorem exch_map {js : List Nat} {i j : Nat} (hi : i < js.length) : cutV (js.map lnV) none (some (i : Int)) ++ [lnV j] ++ cutV (js.map lnV) (some ((i : Int) + 1)) none = (exch js i 1 [j]).map lnV := by
  have e : ((i : Int) + 1) = ((i + 1 : Nat) : Int) := rfl
  rw [e, cut_to (by rw [List.length_map]; omega), cut_from (by rw [List.length_map]; omega)]
  unfold exch
  rw [List.map_append, List.map_append, List.map_take, List.map_drop, List.append_assoc]
  rfl
theorem exch_lines {js : List Nat} {i j : Nat} (h : Lines js) (hj : j < 27) : Lines (exch js i 1 [j]) := fun x hx => by
  unfold exch at hx
  rcases List.mem_append.mp hx with z | z
  · exact h x (List.mem_of_mem_take z)
  · rcases List.mem_append.mp z with z | z
    · rw [List.mem_singleton.mp z]; exact hj
    · exact h x (List.mem_of_mem_drop z)
theorem MdS.mono {K : PySem.W.Frag} {T : Cl} {H : Hp} {d la c hi lr b ll lw lk : Addr} {js : List Nat} {kept : List (List Ch)} {m m' : Nat} (h : MdS K T H d la c hi lr b ll lw lk js kept m) (e : m ≤ m') : MdS K T H d la c hi lr b ll lw lk js kept m' := ⟨h.dr.mono e, h.con, h.hw, h.hk, h.n1, h.n2, h.n3, h.n4, h.lines⟩
theorem RtS.mono {K : PySem.W.Frag} {T : Cl} {H : Hp} {d la c hi lr b ll lw lk : Addr} {js : List Nat} {kept : List (List Ch)} {m m' : Nat} (h : RtS K T H d la c hi lr b ll lw lk js kept m) (e : m ≤ m') : RtS K T H d la c hi lr b ll lw lk js kept m' := ⟨h.dr.mono e, h.con, h.hw, h.hk, h.n1, h.n2, h.n3, h.n4⟩
def spRight : Sp := fun vs H Q _ => ∃ d la m, vs = [.ref d] ∧ DrawS H d la m ∧ m + 200 < 2 ^ 40 ∧ d ≠ la ∧ ∀ H', DrawS H' d la (m + 150) → Q (.bl true) H'
theorem ok_right (W : HW P w K mg base T) : FnG P w K mg base 39 (He.fAd K ("_law_right", none)) spRight := by
  have nd := hc_law_right.nd
  obtain ⟨pap, hpp⟩ := prop_of W (c := "Console") (f := "prompt") (by decide)
  obtain ⟨fdp, Fp, Bp⟩ := ok_prompt W
  have kpn := (W.hd e_law_next (List.mem_of_getElem? (i := 5) rfl)).choose_spec.kp
  have kpr := (W.hd e_law_rough (List.mem_of_getElem? (i := 6) rfl)).choose_spec.kp
  have kps := (W.hd e_law_is_so (List.mem_of_getElem? (i := 7) rfl)).choose_spec.kp
  have kpt := (W.dh.defs d__law_settled (List.mem_of_getElem? (i := 55) rfl)).choose_spec.kp
  have gls := W.dh.glo ("_law_settled", 55) (List.mem_of_getElem? (i := 54) rfl)
  refine hand_G (d := e_law_right) (W.hd _ (List.mem_of_getElem? (i := 8) rfl)) rfl rfl hc_law_right (fun vs H Q E h => ?_) (fun _ _ _ _ _ _ us hl => match us, hl with | [_], _ => by kernel_rfl)
    fun cdv A outer s H vs Q E hgd hr h => by
      refine ⟨_, PSs.nox (
        pss_cons (ps_par3 (i := 1) (j := 2) (l := 3) rfl nd rfl rfl rfl (by decide) (by decide) (by decide) rfl rfl rfl (pa_cons (pe_makeN (E := E0) (W.mk_ "History" (by decide)) (ok_h_init W 0 (by decide)) (hr.mono (by decide)) rfl (W.mgc _ (by decide)) pass0) (pa_cons (pe_lst pa_nil) (pa_cons (pe_lst pa_nil) pa_nil))) rfl)
        (pss_cons (ps_set (i := 4) nd rfl (Or.inl rfl) (StX.pe_makeR (E := E0) (W.mk_ "Console" (by decide)) (ok_c_init W 1 (by decide)) (hr.mono (by decide)) rfl (W.mgc _ (by decide)) pass0 (pa_cons (pv 1) pa_nil)))
        (pss_cons (ps_for PassesOwn.never rfl (pi_range1 rfl (W.free _ (by decide)) (pa_cons pe_int pa_nil)) (pg_name (i := 5) nd rfl (Or.inl rfl))
          (pss_cons (ps_set (i := 6) nd rfl (Or.inl rfl) (pe_and (pe_cmpR (op_neR (T := T) hr.units0) (pv 2) (pe_lst pa_nil) (nomark _)) (pe_one (pe_cmpR op_eq (pe_prop (CX := CX0) (E := E0) (pv 4) (W.cl (c := "Console") (by decide)) hpp Fp (hr.mono (by decide)) Bp .nil pass0 rfl) pe_str (nomark _)))))
          (pss_cons (ps_if (PW.pt (pw_and (pt_val (pv 6)) (pw_and1 (pt_cmpR op_eq (pe_callR (E := E0) (ok_next W) (hr.mono (by decide)) rfl (W.glo _ (by decide)) kpn pass0 (pa_cons (pv 0) (pa_cons pe_int pa_nil)) rfl rfl) pe_int (nomark _)))))
            (pss_cons (ps_set (i := 2) nd rfl (Or.inl rfl) (pe_slice sl_list (pv 2) po_none (po_some (pe_un un_neg pe_int))))
            (pss_one (ps_set (i := 7) nd rfl (Or.inl rfl) (pe_methR0 (E := E0) rfl rfl (pv 4) (W.cl (c := "Console") (by decide)) (meth_of W (by decide)) (ok_c_withdraw W 0 (by decide)) (hr.mono (by decide)) pass0))))
            (pss_one (ps_if (PW.pt (pw_or (pt_val (pv 6)) (pw_or1 (PW.pt (pw_and (pt_cmpR (op_neR (T := T) hr.units0) (pv 2) (pe_lst pa_nil) (nomark _)) (pw_and1 (pt_cmpR op_eq (pe_callR (E := E0) (ok_next W) (hr.mono (by decide)) rfl (W.glo _ (by decide)) kpn pass0 (pa_cons (pv 0) (pa_cons pe_int pa_nil)) rfl rfl) pe_int (nomark _))))))))
              (pss_cons (ps_par (i := 8) (j := 9) rfl nd rfl rfl (by decide) rfl rfl (pa_cons (pe_callR (E := E0) (ok_next W) (hr.mono (by decide)) rfl (W.glo _ (by decide)) kpn pass0 (pa_cons (pv 0) (pa_cons (pe_callB call_len_seq (by rfl) (W.free _ (by decide)) PySem.boot_len (pa_cons (pv 2) pa_nil)) pa_nil)) rfl rfl)
                (pa_cons (pe_ix ix_list (pe_split (pe_op op_add_str (pe_callR (E := E0) (ok_rough W) (hr.mono (by decide)) rfl (W.glo _ (by decide)) kpr pass0 (pa_cons (pv 0) (pa_cons pe_int pa_nil)) rfl rfl) pe_str) pe_str) pe_int (fun _ _ => rfl)) pa_nil)) rfl)
              (pss_cons (ps_set (i := 2) nd rfl (Or.inl rfl) (pe_op op_cat (pe_op op_cat (pe_slice sl_list (pv 2) po_none (po_some (pv 8))) (pe_lst (pa_cons (pv 9) pa_nil))) (pe_slice sl_list (pv 2) (po_some (pe_op op_add (pv 8) pe_int)) po_none)))
              (pss_one (ps_set (i := 7) nd rfl (Or.inl rfl) (pe_methR (E := E0) rfl rfl (by decide) (pv 4) (W.cl (c := "Console") (by decide)) (meth_of W (by decide)) (ok_change_line W) (hr.mono (by decide)) pass0 (pa_cons (pv 8) (pa_cons (pv 9) pa_nil)) rfl)))))
              (pss_cons (ps_set (i := 2) nd rfl (Or.inl rfl) (pe_op op_cat (pv 2) (pe_lst (pa_cons (pe_ix ix_list (pe_split (pe_op op_add_str (pe_callR (E := E0) (ok_rough W) (hr.mono (by decide)) rfl (W.glo _ (by decide)) kpr pass0 (pa_cons (pv 0) (pa_cons pe_int pa_nil)) rfl rfl) pe_str) pe_str) pe_int (fun _ _ => rfl)) pa_nil))))
              (pss_one (ps_set (i := 7) nd rfl (Or.inl rfl) (pe_methR (E := E0) rfl rfl (by decide) (pv 4) (W.cl (c := "Console") (by decide)) (meth_of W (by decide)) (ok_feed W) (hr.mono (by decide)) pass0 (pa_cons (pe_ix ix_list (pv 2) (pe_un un_neg pe_int) (fun _ _ => rfl)) pa_nil) rfl)))))))
          (pss_cons (ps_asg (pe_callR (E := E0) (ok_lset W) (hr.mono (by decide)) rfl gls kpt pass0 (pa_cons (pv 2) (pa_cons (pv 3) pa_nil)) rfl rfl) (pg_tup rfl (pgs_cons (pg_name (i := 10) nd rfl (Or.inl rfl)) (pgs_cons (pg_name (i := 2) nd rfl (Or.inl rfl)) (pgs_cons (pg_name (i := 3) nd rfl (Or.inl rfl)) pgs_nil)))))
          (pss_cons (ps_if (PW.pt (pw_or (pt_cmpR op_ne (pv 7) (pv 10) (nomark _)) (pw_or1 (PW.pt (pw_and (pt_cmpR op_gt (pe_callB call_len_seq (by rfl) (W.free _ (by decide)) PySem.boot_len (pa_cons (pv 3) pa_nil)) pe_int (nomark _)) (pw_and1 (pt_cmpR op_eq (pe_ix ix_list (pv 3) (pe_un un_neg pe_int) (fun _ _ => rfl)) (pe_ix ix_list (pv 3) (pe_un un_neg pe_int) (fun _ _ => rfl)) (nomark _))))))))
            (pss_one (ps_ret (pe_cmpR op_eq (pv 7) (pv 10) (nomark _)))) pss_nil)
          (pss_one (ps_if (pt_not (pt_val (pe_callG (ok_is_so W) hgd hr rfl (W.glo _ (by decide)) kps (pa_cons (pv 4) (pa_cons (pv 2) (pa_cons (pv 1) (pa_cons (pv 3) pa_nil)))) rfl rfl rfl))) (pss_one (ps_ret pe_bl)) pss_nil)))))))
        (pss_one (ps_ret pe_bl))))), ?_⟩
      obtain ⟨d, la, m, rfl, hD, hm, hdl, hQ⟩ := h
      obtain ⟨cells, da, dl, du, q1, q2, _⟩ := id hD.ex
      intro hi dxh nhi ndxh nehi
      refine ⟨hi, dxh, rfl, upd_same, fun H1 lr k1 nlr hH => ⟨rfl, ?_⟩⟩
      have old1 : ∀ y o, H y = some o → upd (upd H dxh (.own hi)) hi (.ins (cAd K "History") dxh []) y = some o := fun y o z => by
        rw [upd_ne (fun q => by rw [q, nhi] at z; cases z), upd_ne (fun q => by rw [q, ndxh] at z; cases z)]
        exact z
      have s1 : Same H H1 := fun y o z => k1 y o (old1 y o z) fun q => by rw [List.mem_singleton.mp q, nhi] at z; cases z
      have n3 : la ≠ lr := ne_of_none (old1 _ _ q2) nlr
      refine ⟨by show 0 ≤ sizeLine; decide, fun lw nlw => ?_⟩
      have s2 := same_new (o := .lst []) nlw
      refine ⟨by show 0 ≤ sizeLine; decide, fun lk nlk => ?_⟩
      have s3 := same_new (o := .lst []) nlk
      refine ⟨_, _, _, rfl, ?_⟩
      obtain ⟨dx0, hh1, hh2⟩ := id hH
      have n1 : lw ≠ lr := Ne.symm (ne_of_none hh2 nlw)
      have n2 : lk ≠ lr := Ne.symm (ne_of_none (s2 _ _ hh2) nlk)
      have hl3 : lr ≠ hi := fun z => by rw [z, hh1] at hh2; cases hh2
      generalize hH3 : upd (upd H1 lw (.lst [])) lk (.lst []) = H3 at s3
      have s23 : Same H1 H3 := s2.trans s3
      have hw3 : H3 lw = some (.lst []) := s3 _ _ upd_same
      have hk3 : H3 lk = some (.lst []) := by rw [← hH3]; exact upd_same
      refine ⟨_, rfl, fun c dxc nc ndc nec => ?_⟩
      have old2 : ∀ y o, H3 y = some o → upd (upd H3 dxc (.own c)) c (.ins (cAd K "Console") dxc []) y = some o := fun y o z => by
        rw [upd_ne (fun q => by rw [q, nc] at z; cases z), upd_ne (fun q => by rw [q, ndc] at z; cases z)]
        exact z
      have g1 := s23 _ _ hh1
      have g2 := s23 _ _ hh2
      refine ⟨c, dxc, hi, lr, [], rfl, upd_same, ⟨dx0, old2 _ _ g1, old2 _ _ g2⟩, Ne.symm (ne_of_none g1 nc), Ne.symm (ne_of_none g2 nc), Ne.symm hl3, fun H4 b ll k4 nb nll hC => ⟨rfl, ?_⟩⟩
      have s4 : Same H3 H4 := fun y o z => k4 y o (old2 y o z) fun q => by rw [List.mem_singleton.mp q, nc] at z; cases z
      have sm : Same H H4 := s1.trans (s23.trans s4)
      have hR0 : RtS K T H4 d la c hi lr b ll lw lk [] [] m := ⟨hD.same sm, hC, s4 _ _ hw3, s4 _ _ hk3, n1, n2, n3, hdl⟩
      refine ⟨10, rfl, by decide, by decide, ?_⟩
      refine for_range (lo := 0) (n := 10) (fun i σ' H' => ∃ b ll lw lk js kept x5 x6 x7 x8 x9 x10, σ' = [some (.ref d), some (.ref hi), some (.ref lw), some (.ref lk), some (.ref c), x5, x6, x7, x8, x9, x10] ∧ RtS K T H' d la c hi lr b ll lw lk js kept (m + 10 * i) ∧ js.length ≤ i ∧ kept.length ≤ i)
        ⟨b, ll, lw, lk, [], [], _, _, _, _, _, _, rfl, hR0, Nat.le_refl _, Nat.le_refl _⟩ ?_ ?_
      · clear hC hR0 nb nll k4 s4 sm nlw nlk s2 s3 n1 n2 hH3 hw3 hk3 old2 g1 g2 nc ndc nec s23 b ll lw lk
        rintro i σ' H5 hi10 ⟨b, ll, lw, lk, js, kept, x5, x6, x7, x8, x9, x10, rfl, hR, hl1, hl2⟩
        have hj := hR.con.buf.ok
        obtain ⟨dxc, hc⟩ := hR.con.con
        dsimp only [gName]
        refine asg_split (fun v H' => ∃ bv, v = .bl bv ∧ (bv = true → js ≠ [] ∧ verdR (runS s0 js) = tWrong) ∧ (bv = false → verdR (runS s0 js) ≠ tWrong) ∧ Same H5 H') (fun Q2 hQ2 => ?_) fun v H6 ⟨bv, ev, ht, hf, s6⟩ => ?_
        · refine ⟨_, rfl, by show 0 ≤ sizeLine; decide, fun a na => ?_⟩
          have sa := same_new (o := .lst []) na
          refine ⟨.lst (lnsD js), .lst [], .bl (!js.isEmpty), .lst (.inl (sa _ _ hR.hw)) (repLn js), .lst (.inl upd_same) .nil, by cases js <;> rfl, fun v6 H6 s6 r6 => ⟨_, rep_bl r6, ?_⟩⟩
          have sm6 := sa.trans s6
          cases hb : js.isEmpty with
          | true =>
            refine iteF (hQ2 _ _ ⟨false, rfl, (fun z => nomatch z), fun _ => ?_, sm6⟩)
            rw [List.isEmpty_iff.mp hb]
            exact nil_right
          | false =>
            have h0 : ¬ js.length = 0 := fun z => by rw [List.length_eq_zero_iff.mp z] at hb; cases hb
            refine iteT ?_
            refine ⟨_, rfl, c, dxc, _, rfl, sm6 _ _ hc, c, hi, lr, b, ll, js, kept, _, rfl, hR.con.same sm6, fun v7 H7 s7 r7 => ?_⟩
            have r7' : v7 = V.str (prmt js) := r7
            subst r7'
            refine ⟨rfl, ?_⟩
            rw [prmt_wrong h0]
            refine hQ2 _ _ ⟨_, rfl, fun z => ⟨fun y => h0 (by rw [y]; rfl), of_decide_eq_true z⟩, fun z => of_decide_eq_false z, sm6.trans s7⟩
        · subst ev
          have hR6 := hR.same s6
          clear hR hc
          dsimp only [gName]
          refine seq_split (fun σ2 H' => ∃ b' ll' lw2 js2 v8 v9, σ2 = [some (.ref d), some (.ref hi), some (.ref lw2), some (.ref lk), some (.ref c), some (.int (0 + (i : Int))), some (.bl bv), some (.str (toS (verdR (runS s0 js2)))), v8, v9, x10] ∧ MdS K T H' d la c hi lr b' ll' lw2 lk js2 kept (m + 10 * i + 8) ∧ js2.length ≤ i + 1) (fun N hN => ?_) ?_
          · refine if_split (fun H' => bv = true ∧ RtS K T H' d la c hi lr b ll lw lk js kept (m + 10 * i + 1)) (fun H' => RtS K T H' d la c hi lr b ll lw lk js kept (m + 10 * i + 1)) (fun Q3 hA hB => ?_) (fun H7 ⟨eb, hR7⟩ => ?_) fun H7 hR7 => ?_
            · refine ⟨_, rfl, bv, rfl, ?_⟩
              cases bv with
              | false => exact iteF (hB _ ⟨hR6.dr.mono (by omega), hR6.con, hR6.hw, hR6.hk, hR6.n1, hR6.n2, hR6.n3, hR6.n4⟩)
              | true =>
                refine iteT ?_
                refine ⟨_, rfl, d, la, 2, _, rfl, hR6.dr, by decide, by decide, by omega, hdl, fun H7 r k7 D7 r0 r1 => ?_⟩
                have hR7 := hR6.draw W k7 D7
                refine ⟨rfl, _, rfl, ?_⟩
                by_cases hr0 : r = 0
                · rw [decide_eq_true (by rw [hr0])]
                  exact hA _ ⟨rfl, hR7⟩
                · rw [decide_eq_false (fun z => hr0 (V.int.inj z))]
                  exact hB _ hR7
            · obtain ⟨hne, hwr⟩ := ht eb
              have hpos : 0 < js.length := List.length_pos_iff.mpr hne
              obtain ⟨dxc, hc⟩ := hR7.con.con
              refine ⟨_, rfl, ?_⟩
              unfold tNoPart
              refine ⟨1, rfl, _, rfl, lw, _, rfl, SqL.of hR7.hw, fun p np => ?_⟩
              rw [cut_m1, ← List.map_dropLast]
              have sp := same_new (o := .lst (js.dropLast.map lnV)) np
              obtain ⟨⟨_, _, _, e1⟩, ⟨_, _, _, e2⟩, ⟨_, e3⟩, _⟩ := hR7.con.kinds
              have hR8 := hR7.same sp
              refine ⟨_, rfl, c, dxc, _, rfl, sp _ _ hc, rfl, ?_⟩
              refine ⟨c, hi, lr, b, ll, js, kept, _, rfl, hR8.con, by omega, hpos, fun H9 b' ll' k9 hb9 hl9 hC9 => ?_⟩
              exact hN _ _ ⟨b', ll', p, js.dropLast, _, _, rfl, MdS.mono (hR8.told upd_same (Ne.symm (ne_of_none e3 np)) (fun x hx => hj x (List.dropLast_subset _ hx)) k9 hC9) (by omega), by rw [List.length_dropLast]; omega⟩
            · refine if_split (fun H' => js ≠ [] ∧ RtS K T H' d la c hi lr b ll lw lk js kept (m + 10 * i + 2)) (fun H' => verdR (runS s0 js) ≠ tWrong ∧ RtS K T H' d la c hi lr b ll lw lk js kept (m + 10 * i + 2)) (fun Q3 hA hB => ?_) (fun H8 ⟨hne, hR8⟩ => ?_) fun H8 ⟨hnw, hR8⟩ => ?_
              · have inner : ∀ H8, RtS K T H8 d la c hi lr b ll lw lk js kept (m + 10 * i + 1) → verdR (runS s0 js) ≠ tWrong → (tAnd (tTest (tOp (rD K T .ne) (tVar 2) (tLst tNil))) (tTest (tOp rEq (fun σ H Q => (tCons (tVar 0) (tCons (L2.tC (.int 6)) tNil)) σ H fun vs H1 => spNext vs H1 Q E0) (L2.tC (.int 0)))))
                    [some (.ref d), some (.ref hi), some (.ref lw), some (.ref lk), some (.ref c), some (.int (0 + (i : Int))), some (.bl bv), x7, x8, x9, x10] H8 Q3 := by
                  intro H8 hR8 hnw
                  refine ⟨_, rfl, by show 0 ≤ sizeLine; decide, fun a na => ?_⟩
                  have sa := same_new (o := .lst []) na
                  refine ⟨.lst (lnsD js), .lst [], .bl (!js.isEmpty), .lst (.inl (sa _ _ hR8.hw)) (repLn js), .lst (.inl upd_same) .nil, by cases js <;> rfl, fun v9 H9 s9 r9 => ⟨_, rep_bl r9, ?_⟩⟩
                  have hR9 := hR8.same (sa.trans s9)
                  cases hb : js.isEmpty with
                  | true => exact iteF (hB _ ⟨hnw, hR9.mono (by omega)⟩)
                  | false =>
                    have hne : js ≠ [] := fun z => by rw [z] at hb; cases hb
                    refine iteT ?_
                    refine ⟨_, rfl, d, la, 6, _, rfl, hR9.dr, by decide, by decide, by omega, hdl, fun H10 r k10 D10 r0 r1 => ?_⟩
                    have hR10 := hR9.draw W k10 D10
                    refine ⟨rfl, _, rfl, ?_⟩
                    by_cases hr0 : r = 0
                    · rw [decide_eq_true (by rw [hr0])]
                      exact hA _ ⟨hne, hR10⟩
                    · rw [decide_eq_false (fun z => hr0 (V.int.inj z))]
                      exact hB _ ⟨hnw, hR10⟩
                refine ⟨_, rfl, bv, rfl, ?_⟩
                cases hbv : bv with
                | true => exact iteT (hA _ ⟨(ht hbv).1, hR7.mono (by omega)⟩)
                | false =>
                  subst hbv
                  exact iteF (inner _ hR7 (hf rfl))
              · have hpos : 0 < js.length := List.length_pos_iff.mpr hne
                have hlm : ((js.map lnV).length : Int) = (js.length : Int) := by rw [List.length_map]
                refine ⟨_, rfl, _, rfl, lw, _, rfl, .inl (SqL.of hR8.hw), d, la, _, _, rfl, hR8.dr, by rw [hlm]; omega, by rw [hlm]; omega, by omega, hdl, fun H9 r k9 D9 r0 r1 => ?_⟩
                have hR9 := hR8.draw W k9 D9
                rw [hlm] at r1
                obtain ⟨i0, rfl⟩ : ∃ i0 : Nat, r = (i0 : Int) := ⟨r.toNat, (Int.toNat_of_nonneg r0).symm⟩
                have hi0 : i0 < js.length := by omega
                refine ⟨_, rfl, d, la, _, rfl, hR9.dr, by omega, hdl, fun H10 ks k10 hks hk3 D10 => ?_⟩
                have hR10 := hR9.draw W k10 D10
                have hfit : (toS (textS ks)).length + 3 ≤ sizeLine := by
                  have h3 := lines_len20 hks
                  unfold lenS at h3
                  rw [toS_len, sizeLine_eq]
                  omega
                obtain ⟨rs, hrs⟩ := rough_split hks
                have hj0 := head1_lt hks
                refine ⟨_, _, rfl, rfl, by show _ + 1 ≤ _; omega, ⟨_, rfl⟩, _, _, rfl, rfl, by decide +kernel, ?_, fun p np => ?_⟩
                · rw [strLen_append]; show _ + 1 + 2 ≤ _; omega
                rw [hrs]
                have sp := same_new (o := .lst ((toS (lnT (head1 ks)) :: rs).map V.str)) np
                refine ⟨p, _, 0, lnV (head1 ks), rfl, rfl, SqL.of upd_same, atI_nat (j := 0) rfl, _, _, rfl, ?_⟩
                have hR11 := hR10.same sp
                generalize hK : upd H10 p (.lst ((toS (lnT (head1 ks)) :: rs).map V.str)) = K1 at hR11 ⊢
                clear hK sp np
                refine ⟨_, rfl, ?_⟩
                unfold tNoPart
                refine ⟨_, rfl, _, rfl, lw, _, rfl, SqL.of hR11.hw, fun p1 np1 => ?_⟩
                have t1 := same_new (o := .lst (cutV (js.map lnV) none (some (i0 : Int)))) np1
                refine ⟨_, rfl, by show 1 ≤ sizeLine; decide, fun p2 np2 => ?_⟩
                have t2 := same_new (o := .lst [lnV (head1 ks)]) np2
                have hcl1 := cutV_length (js.map lnV) none (some (i0 : Int))
                refine ⟨p1, p2, _, _, rfl, rfl, t2 _ _ upd_same, upd_same, by rw [List.length_map] at hcl1; rw [sizeLine_eq]; show _ + 1 ≤ _; omega, fun p3 np3 => ?_⟩
                have t3 := same_new (o := .lst (cutV (js.map lnV) none (some (i0 : Int)) ++ [lnV (head1 ks)])) np3
                refine ⟨_, rfl, _, rfl, _, _, rfl, rfl, _, rfl, lw, _, rfl, SqL.of (t3 _ _ (t2 _ _ (t1 _ _ hR11.hw))), fun p4 np4 => ?_⟩
                have t4 := same_new (o := .lst (cutV (js.map lnV) (some ((i0 : Int) + 1)) none)) np4
                have hcl2 := cutV_length (js.map lnV) (some ((i0 : Int) + 1)) none
                refine ⟨p3, p4, _, _, rfl, rfl, t4 _ _ upd_same, upd_same, by rw [List.length_map] at hcl1 hcl2; rw [List.length_append, sizeLine_eq]; show _ + 1 + _ ≤ _; omega, fun p5 np5 => ?_⟩
                rw [exch_map hi0]
                have t5 := same_new (o := .lst ((exch js i0 1 [head1 ks]).map lnV)) np5
                have ts := t1.trans (t2.trans (t3.trans t4))
                have hR12 := hR11.same (ts.trans t5)
                obtain ⟨dxc, hc⟩ := hR12.con.con
                obtain ⟨_, _, ⟨_, e3⟩, _⟩ := hR11.con.kinds
                refine ⟨_, rfl, c, dxc, _, rfl, hc, rfl, _, rfl, _, rfl, ?_⟩
                refine ⟨c, hi, lr, b, ll, js, kept, _, i0, head1 ks, rfl, hR12.con, by omega, hi0, hj0, fun H13 b' ll' k13 hb13 hl13 hC13 => ?_⟩
                refine hN _ _ ⟨b', ll', p5, exch js i0 1 [head1 ks], _, _, rfl, MdS.mono (hR12.told upd_same (Ne.symm (ne_of_none (ts _ _ e3) np5)) (exch_lines hj hj0) k13 hC13) (by omega), ?_⟩
                rw [exch_len (by omega)]
                show i0 + 1 + _ ≤ _
                omega
              · refine ⟨_, rfl, ?_⟩
                refine ⟨_, rfl, d, la, _, rfl, hR8.dr, by omega, hdl, fun H10 ks k10 hks hk3 D10 => ?_⟩
                have hR10 := hR8.draw W k10 D10
                have hfit : (toS (textS ks)).length + 3 ≤ sizeLine := by
                  have h3 := lines_len20 hks
                  unfold lenS at h3
                  rw [toS_len, sizeLine_eq]
                  omega
                obtain ⟨rs, hrs⟩ := rough_split hks
                have hj0 := head1_lt hks
                refine ⟨_, _, rfl, rfl, by show _ + 1 ≤ _; omega, ⟨_, rfl⟩, _, _, rfl, rfl, by decide +kernel, ?_, fun p np => ?_⟩
                · rw [strLen_append]; show _ + 1 + 2 ≤ _; omega
                rw [hrs]
                have sp := same_new (o := .lst ((toS (lnT (head1 ks)) :: rs).map V.str)) np
                refine ⟨p, _, 0, lnV (head1 ks), rfl, rfl, SqL.of upd_same, atI_nat (j := 0) rfl, ?_⟩
                have hR11 := hR10.same sp
                generalize hK : upd H10 p (.lst ((toS (lnT (head1 ks)) :: rs).map V.str)) = K1 at hR11 ⊢
                clear hK sp np
                refine ⟨by show 1 ≤ sizeLine; decide, fun p2 np2 => ?_⟩
                have t2 := same_new (o := .lst [lnV (head1 ks)]) np2
                refine ⟨lw, p2, _, _, rfl, rfl, t2 _ _ hR11.hw, upd_same, by rw [List.length_map, sizeLine_eq]; show _ + 1 ≤ _; omega, fun p3 np3 => ?_⟩
                have em : js.map lnV ++ [lnV (head1 ks)] = (js ++ [head1 ks]).map lnV := by rw [List.map_append]; rfl
                rw [em]
                have t3 := same_new (o := .lst ((js ++ [head1 ks]).map lnV)) np3
                have hR12 := hR11.same (t2.trans t3)
                obtain ⟨dxc, hc⟩ := hR12.con.con
                obtain ⟨_, _, ⟨_, e3⟩, _⟩ := hR11.con.kinds
                refine ⟨_, rfl, c, dxc, _, rfl, hc, rfl, _, rfl, 1, rfl, p3, _, -1, lnV (head1 ks), rfl, rfl, SqL.of upd_same, by rw [← em]; exact atI_last _ _, ?_⟩
                refine ⟨c, hi, lr, b, ll, js, kept, _, head1 ks, rfl, hR12.con, by omega, hj0, by omega, hnw, fun H13 b' ll' k13 hb13 hl13 hC13 => ?_⟩
                refine hN _ _ ⟨b', ll', p3, js ++ [head1 ks], _, _, rfl, MdS.mono (hR12.told upd_same (Ne.symm (ne_of_none (t2 _ _ e3) np3)) (fun x hx => ?_) k13 hC13) (by omega), ?_⟩
                · rcases List.mem_append.mp hx with z | z
                  · exact hj x z
                  · rw [List.mem_singleton.mp z]; exact hj0
                · rw [List.length_append]; show _ + 1 ≤ _; omega
          · rintro _ H7 ⟨b', ll', lw2, js2, v8, v9, rfl, hM, hl3⟩
            refine ⟨_, rfl, _, rfl, lw2, lk, js2, kept, rfl, hM.hw, hM.hk, hM.lines, by omega, by omega, fun H8 t lw3 lk3 s8 e1 e2 g1 g2 g3 => ?_⟩
            refine ⟨t, _, rfl, .inl (.inl g3), rfl, _, _, rfl, _, _, rfl, _, _, rfl, rfl, ?_⟩
            have hwl := wait_sub js2
            have hkl := keptS_len js2 kept
            have hC8 := hM.con.same s8
            have hD8 := hM.dr.same s8
            obtain ⟨_, _, ⟨_, e3⟩, _⟩ := hM.con.kinds
            have n1 : lw3 ≠ lr := e1.elim (fun z => by rw [z]; exact hM.n1) fun z => Ne.symm (ne_of_none e3 z)
            have n2 : lk3 ≠ lr := e2.elim (fun z => by rw [z]; exact hM.n2) fun z => Ne.symm (ne_of_none e3 z)
            dsimp only
            refine seq_split (fun σ2 H' => σ2 = [some (.ref d), some (.ref hi), some (.ref lw3), some (.ref lk3), some (.ref c), some (.int (0 + (i : Int))), some (.bl bv), some (.str (toS (verdR (runS s0 js2)))), v8, v9, some (.str (toS (verdR (runS s0 js2))))] ∧ H' = H8 ∧ ∀ ini a z, keptS js2 kept = ini ++ [a, z] → a ≠ z) (fun N hN => ?_) ?_
            · refine ⟨_, rfl, _, rfl, rfl, _, rfl, iteNS rfl ?_⟩
              refine ⟨_, rfl, lk3, _, rfl, .inl (SqL.of g2), _, _, rfl, rfl, _, rfl, ?_⟩
              by_cases h1 : 1 < (keptS js2 kept).length
              · rw [decide_eq_true (show (1 : Int) < (((keptS js2 kept).map txV).length : Nat) by rw [List.length_map]; omega)]
                refine iteT ?_
                obtain ⟨ini, a, z, e⟩ := two_last _ h1
                have em : (keptS js2 kept).map txV = ini.map txV ++ [txV a, txV z] := by rw [e, List.map_append]; rfl
                have ez : L2.atI ((keptS js2 kept).map txV) (-1) = some (txV z) := by
                  rw [em, show ini.map txV ++ [txV a, txV z] = (ini.map txV ++ [txV a]) ++ [txV z] by rw [List.append_assoc]; rfl]
                  exact atI_last _ _
                have ea : L2.atI ((keptS js2 kept).map txV) (-2) = some (txV a) := by rw [em]; exact atI_m2 _ _ _
                refine ⟨_, rfl, 1, rfl, lk3, _, -1, _, rfl, rfl, SqL.of g2, ez, _, rfl, 2, rfl, lk3, _, -2, _, rfl, rfl, SqL.of g2, ea, rfl, _, rfl, ?_⟩
                have ed : decide (txV z = txV a) = decide (z = a) := decide_eq_decide.mpr ⟨fun y => toS_inj (V.str.inj y), fun y => by rw [y]⟩
                rw [ed]
                by_cases hza : z = a
                · rw [decide_eq_true hza]
                  refine iteT ?_
                  refine ⟨_, rfl, _, rfl, rfl, ?_⟩
                  rw [decide_eq_true (rfl : V.str (toS (verdR (runS s0 js2))) = V.str (toS (verdR (runS s0 js2))))]
                  exact hQ _ (hD8.mono (by omega))
                · rw [decide_eq_false hza]
                  refine iteF (hN _ _ ⟨rfl, rfl, fun ini2 a2 z2 e2 => ?_⟩)
                  rw [e] at e2
                  obtain ⟨_, e5⟩ := List.append_inj' e2 rfl
                  cases e5
                  exact Ne.symm hza
              · rw [decide_eq_false (show ¬ (1 : Int) < (((keptS js2 kept).map txV).length : Nat) by rw [List.length_map]; omega)]
                refine iteF (iteF (hN _ _ ⟨rfl, rfl, fun ini2 a2 z2 e2 => absurd (show 1 < (keptS js2 kept).length by rw [e2, List.length_append]; show 1 < _ + 2; omega) h1⟩))
            · rintro _ _ ⟨rfl, rfl, hdup⟩
              obtain ⟨k1, k2⟩ := kept_same hdup
              rw [k1, k2] at hC8
              refine ⟨_, rfl, _, rfl, _, rfl, _, rfl, c, lw3, hi, lk3, lr, b', ll', waitS js2, keptS js2 kept, rfl, hC8, g1, g2, by omega, fun H9 s9 => ⟨true, rfl, iteF ?_⟩⟩
              exact ⟨b', ll', lw3, lk3, waitS js2, keptS js2 kept, _, _, _, _, _, _, rfl, ⟨(hD8.same s9).mono (by omega), hC8.same s9, s9 _ _ g1, s9 _ _ g2, n1, n2, hM.n3, hM.n4⟩, by omega, by omega⟩
      · rintro σ' H5 ⟨b, ll, lw, lk, js, kept, x5, x6, x7, x8, x9, x10, rfl, hR, hl1, hl2⟩
        exact hQ _ (hR.dr.mono (by omega))
  · obtain ⟨d, la, m, rfl, _⟩ := h
    rfl
end
end Rp
namespace Rp
open PySem PySem.Spec PyProof.Rows L2
section
variable {P : Program} {w : World} {K : PySem.W.Frag} {mg : Str → Option Value} {base : Heap} {T : Cl}
def spLawG (K : PySem.W.Frag) : Sp := fun vs H Q _ => ∃ ls ns, vs = [.ref ls] ∧ SqL K H ls ((ns : List Int).map V.int) ∧ ns.length ≤ 63 ∧ ∀ H', Q (.bl true) H'
theorem ok_law (W : HW P w K mg base T) : FnG P w K mg base 40 (He.fAd K ("law", none)) (spLawG K) := by
  have nd := hc_law.nd
  have kpb := (W.hd e_law_begin (List.mem_of_getElem? (i := 4) rfl)).choose_spec.kp
  have kpr := (W.hd e_law_right (List.mem_of_getElem? (i := 8) rfl)).choose_spec.kp
  refine hand_G (d := e_law) (W.hd _ (List.mem_of_getElem? (i := 9) rfl)) rfl rfl hc_law (fun vs H Q E h => ?_) (fun _ _ _ _ _ _ us hl => match us, hl with | [_], _ => by kernel_rfl)
    fun cdv A outer s H vs Q E hgd hr h => by
      refine ⟨_, PSs.nox (
        pss_cons (ps_set (i := 1) nd rfl (Or.inl rfl) (pe_callR (E := E0) (ok_begin W) (hr.mono (by decide)) rfl (W.glo _ (by decide)) kpb pass0 (pa_cons (pv 0) pa_nil) rfl rfl))
        (pss_cons (ps_for PassesOwn.never rfl (pi_range1 rfl (W.free _ (by decide)) (pa_cons (pe_callB (call_min2 rfl) (by rfl) (W.free _ (by decide)) PyProof.Rows.boot_min (pa_cons pe_int (pa_cons (pe_op op_add pe_int (pe_callB call_len_seq (by rfl) (W.free _ (by decide)) PySem.boot_len (pa_cons (pv 0) pa_nil))) pa_nil))) pa_nil)) (pg_name (i := 2) nd rfl (Or.inl rfl))
          (pss_one (ps_if (pt_not (pt_val (pe_callG (ok_right W) hgd hr rfl (W.glo _ (by decide)) kpr (pa_cons (pv 1) pa_nil) rfl rfl rfl))) (pss_one (ps_ret pe_bl)) pss_nil)))
        (pss_one (ps_ret pe_bl)))), ?_⟩
      obtain ⟨ls, ns, rfl, hS, hn, hQ⟩ := h
      refine ⟨_, rfl, ls, ns, rfl, hS, by omega, fun H1 d la s1 nd1 nla hdl hD => ?_⟩
      have hS1 := s1.seq hS
      refine ⟨_, rfl, ls, _, rfl, .inl hS1, _, _, rfl, rfl, ?_⟩
      refine ⟨_, _, rfl, ?_⟩
      have hx : ∃ k : Nat, k ≤ 3 ∧ (if (1 : Int) + ((ns.map V.int).length : Nat) < 3 then (1 : Int) + ((ns.map V.int).length : Nat) else 3) = (k : Int) := by
        split
        · exact ⟨1 + (ns.map V.int).length, by omega, rfl⟩
        · exact ⟨3, Nat.le_refl _, rfl⟩
      obtain ⟨k, hk, ek⟩ := hx
      rw [ek]
      refine ⟨(k : Int), rfl, by omega, by omega, ?_⟩
      refine for_range (lo := 0) (n := k) (fun i σ' H' => ∃ x2, σ' = [some (.ref ls), some (.ref d), x2] ∧ DrawS H' d la (150 * i)) ⟨_, rfl, hD.same (Same.refl _)⟩ ?_ ?_
      · rintro i σ' H2 hi ⟨x2, rfl, hD2⟩
        refine ⟨_, rfl, d, la, 150 * i, rfl, hD2, by omega, hdl, fun H3 D3 => ⟨true, rfl, iteF ?_⟩⟩
        exact ⟨_, rfl, D3.mono (by omega)⟩
      · rintro σ' H2 ⟨x2, rfl, hD2⟩
        exact hQ _
  · obtain ⟨ls, ns, rfl, _⟩ := h
    rfl
end
end Rp
namespace Rp
open PySem PySem.Spec PyProof.Rows L2
section
variable {P : Program} {w : World} {K : PySem.W.Frag} {mg mb : Str → Option Value} {k : Nat} {fa a : Addr} {sp : Sp} {s1 : Shared} {vs : List Value} {ns : List Int}
theorem callG_from (KX : K.In s1.heap) (gns : s1.heap.Ns mainGlobals mg) (bns : s1.heap.Ns builtinsNs mb) (hbb : ∀ x : Str, x ≠ "__name__" → mb x = bootBuiltins x) (lim : s1.heap.NoLimit) (g0 : s1.gens = #[])
    (hobj : s1.heap.get? a = some { cls := .type "list", data := .seq vs.toArray }) (hr : Room k callerA) (F : ∀ base : Heap, K.In base → base.Ns mainGlobals mg → FnG P w K mg base k fa sp) (H : Hp) (only : Only H) (hS : sp [.ref a] H (fun v _ => v = .bl true) fun _ _ _ => False)
    (ok : HOk P w H s1.heap) (hA : ∀ b, H b ≠ none → b = a) (hK : H a ≠ none → K.lookup a = none) :
    codeAny (model P w) callerA (.call (.ref fa) ⟨[.ref a], []⟩) (fun r s' => r = .ok (.ret (.bool true)) ∧ OldK s1.heap s'.heap ∧ s'.os = s1.os ∧ AllBare s'.gens) s1 := by
  have at_a : ∀ {b : Addr} {u : HO}, H b = some u → b = a := fun {b u} z => hA b fun y => by rw [y] at z; cases z
  have noDict : ∀ {b : Addr} {o : Obj} {es : Array DictEntry} {ep : Nat}, s1.heap.get? b = some o → o.data = .dict es ep → H b = none := fun {b o es ep} z1 z2 => by
    cases q : H b with
    | none => rfl
    | some u =>
      rw [at_a q, hobj] at z1
      cases z1
      exact nomatch (show Data.seq vs.toArray _ = Data.dict es ep from z2)
  have ns_at : ∀ {b : Addr} {m : Str → Option Value}, s1.heap.Ns b m → (hidT s1.heap H).Ns b m := fun {b m} ⟨o, es, ep, z1, z2, z3⟩ => ⟨o, es, ep, hidT_get z1 (noDict z1 z2), z2, z3⟩
  have kb : K.In (hidT s1.heap H) := fun b o z => hidT_get (KX b o z) (by
    cases q : H b with
    | none => rfl
    | some u =>
      have e := at_a q
      rw [e] at q z
      rw [hK (by rw [q]; exact fun y => nomatch y)] at z
      cases z)
  obtain ⟨mc, l1, l2⟩ := lim
  have e0 : Env0 P w K mg (hidT s1.heap H) callerA [] s1 H := ⟨rfl, ⟨kb, ns_at gns, ⟨mb, ns_at bns, hbb⟩, ⟨mc, ns_at l1, l2⟩⟩, fun b o z => of_hidT z, Nat.le_of_eq (hidT_size _ _), trivial, fun b z => absurd z List.not_mem_nil, ok, .of_eq g0⟩
  refine codeAny_mono (F _ kb (ns_at gns) callerA [] s1 H [.ref a] [.ref a] _ _ rfl hr e0 (.cons rfl .nil) hS) fun r s' z => ?_
  match r, z with
  | .error e, z => exact False.elim z
  | .ok (.ret u), ⟨v, H', hos, bare, un, ok', rv, ev⟩ =>
    have ev' : v = .bl true := ev
    subst ev'
    obtain rfl : u = Value.bool true := rv
    refine ⟨rfl, OldK.of_keep fun b o z => ?_, hos, bare⟩
    cases q : H b with
    | none => exact un.keep b o z q (show b ∉ ([] : List Addr) from List.not_mem_nil) List.not_mem_nil
    | some u =>
      rcases only b with y | ⟨ob, xs, y⟩
      · rw [q] at y; cases y
      · obtain ⟨f1, _⟩ := ok b _ y
        obtain ⟨f2, _⟩ := ok' b _ (un.frzs b ob _ y)
        rw [z] at f1
        cases f1
        exact f2
theorem law_callG (KX : K.In s1.heap) (gns : s1.heap.Ns mainGlobals mg) (bns : s1.heap.Ns builtinsNs mb) (hbb : ∀ x : Str, x ≠ "__name__" → mb x = bootBuiltins x) (lim : s1.heap.NoLimit) (g0 : s1.gens = #[])
    (hobj : s1.heap.get? a = some { cls := .type "list", data := .seq vs.toArray }) (hi : IntsAre vs ns) (hl : ns.length ≤ sizeLine) (hr : Room k callerA) (F : ∀ base : Heap, K.In base → base.Ns mainGlobals mg → FnG P w K mg base k fa sp)
    (hsp : ∀ H : Hp, SqL K H a (ns.map V.int) → sp [.ref a] H (fun v _ => v = .bl true) fun _ _ _ => False) :
    codeAny (model P w) callerA (.call (.ref fa) ⟨[.ref a], []⟩) (fun r s' => r = .ok (.ret (.bool true)) ∧ OldK s1.heap s'.heap ∧ s'.os = s1.os ∧ AllBare s'.gens) s1 := by
  have rv := vals_ints hi
  have lv := hi.length
  cases hk : K.lookup a with
  | some o =>
    have e := KX a o hk
    rw [hobj] at e
    cases e
    exact callG_from KX gns bns hbb lim g0 hobj hr F (fun _ => none) (fun _ => .inl rfl) (hsp _ (.inr ⟨_, vs.toArray, _, hk, rfl, rfl, rfl, by rw [List.size_toArray, lv]; exact hl, by simpa using rv⟩)) (fun b u z => nomatch (show (none : Option HO) = some u from z)) (fun b z => absurd rfl z) fun z => absurd rfl z
  | none =>
    let H0 : Hp := fun b => if b = a then some (.frz { cls := .type "list", data := .seq vs.toArray } (.lst (ns.map V.int))) else none
    have h1 : H0 a = some (.frz { cls := .type "list", data := .seq vs.toArray } (.lst (ns.map V.int))) := if_pos rfl
    have h2 : ∀ b, b ≠ a → H0 b = none := fun b hb => if_neg hb
    refine callG_from KX gns bns hbb lim g0 hobj hr F H0 (fun b => ?_) (hsp H0 (.inl (.inr ⟨_, h1⟩))) (fun b u z => ?_) (fun b z => ?_) fun _ => hk
    · by_cases hb : b = a
      · exact .inr ⟨_, _, by rw [hb]; exact h1⟩
      · exact .inl (h2 b hb)
    · by_cases hb : b = a
      · rw [hb] at z ⊢
        rw [h1] at z
        cases z
        exact ⟨hobj, by rw [List.length_map]; exact hl, vs, _, rv, hobj⟩
      · rw [h2 b hb] at z
        cases z
    · by_cases hb : b = a
      · exact hb
      · exact absurd (h2 b hb) z
end
theorem walk_G {l : PySem.W.OpenLaw} {n k : Nat} {q : Program} {loose : List Str} {XP : (Str → Option Value) → Heap → Prop} {YP : World → Heap → Prop} {d : DefRec} (hn : l.most = some n) (hn2 : n ≤ sizeLine) (hdf : d.params.defaults = []) (hr : Room k callerA)
    (F : ∀ (w : World) (mg : Str → Option Value) (fa : Addr) (h : Heap), YP w h → h.Ns mainGlobals mg → mg d.name = some (.ref fa) → ∃ (K : PySem.W.Frag) (sp : Sp), K.In h ∧ (∀ (H : Hp) (a : Addr) (ns : List Int), ns.length ≤ n → SqL K H a (ns.map V.int) → sp [.ref a] H (fun v _ => v = .bl true) fun _ _ _ => False) ∧
      ∀ base : Heap, K.In base → base.Ns mainGlobals mg → FnG l.prog w K mg base k fa sp) : PySem.W.WalkO q loose XP YP l.row.toRowW d [] (fun f vs => PySem.call f vs) := by
  refine Att.attach_call hn hdf fun w s0 s1 mg mb fa o pm cd doc a vs ns G Y ho hd hcd hmg hobj hints hlen hg => ?_
  obtain ⟨K, sp, KX, hsp, hF⟩ := F w mg fa _ Y G.T.g hmg
  exact law_callG KX G.T.g G.T.b G.T.builtins G.T.nolimit hg hobj hints (Nat.le_trans hlen hn2) hr hF fun H hS => hsp H a ns hlen hS
end Rp
namespace Rp
open PySem PySem.Spec PyProof.Rows L2
def tR (K : PySem.W.Frag) : Cl := ⟨fun _ => He.ga K stN, fun _ => nm.fld⟩
theorem lookK_zip : ∀ {ks : List (List Ch)} {ds : List D} {k : List Ch} {d : D}, lookK k ks ds = some d → (k, d) ∈ ks.zip ds
  | [], _, _, _, h => by cases h
  | _ :: _, [], _, _, h => by cases h
  | a :: as, b :: bs, k, d, h => by
    have h2 : (match beqS a k with
      | true => some b
      | false => lookK k as bs) = some d := h
    rw [List.zip_cons_cons]
    cases e : beqS a k with
    | true =>
      rw [e] at h2
      cases h2
      rw [beqS_iff.mp e]
      exact List.mem_cons_self ..
    | false =>
      rw [e] at h2
      exact List.mem_cons_of_mem _ (lookK_zip h2)
section
variable {P : Program} {w : World} {K : PySem.W.Frag} {mg : Str → Option Value} {base h : Heap}
theorem inF {f : He.Fa} (m : f ∈ faFree) : f ∈ faR := List.mem_append.mpr (.inl m)
theorem inG {f : He.Fa} (m : f ∈ faGlo) : f ∈ faR := List.mem_append.mpr (.inr (List.mem_append.mpr (.inl m)))
theorem inC {f : He.Fa} (m : f ∈ faCls) : f ∈ faR := List.mem_append.mpr (.inr (List.mem_append.mpr (.inr (List.mem_append.mpr (.inl m)))))
theorem inM {f : He.Fa} (m : f ∈ faMkr) : f ∈ faR := List.mem_append.mpr (.inr (List.mem_append.mpr (.inr (List.mem_append.mpr (.inr (List.mem_append.mpr (.inl m)))))))
theorem inN1 {f : He.Fa} (m : f ∈ faNo1) : f ∈ faR := List.mem_append.mpr (.inr (List.mem_append.mpr (.inr (List.mem_append.mpr (.inr (List.mem_append.mpr (.inr (List.mem_append.mpr (.inl m)))))))))
theorem inN2 {f : He.Fa} (m : f ∈ faNo2) : f ∈ faR := List.mem_append.mpr (.inr (List.mem_append.mpr (.inr (List.mem_append.mpr (.inr (List.mem_append.mpr (.inr (List.mem_append.mpr (.inr (List.mem_append.mpr (.inl m)))))))))))
theorem inE1 {f : He.Fa} (m : f ∈ faMe1) : f ∈ faR := List.mem_append.mpr (.inr (List.mem_append.mpr (.inr (List.mem_append.mpr (.inr (List.mem_append.mpr (.inr (List.mem_append.mpr (.inr (List.mem_append.mpr (.inr (List.mem_append.mpr (.inl m)))))))))))))
theorem inE2 {f : He.Fa} (m : f ∈ faMe2) : f ∈ faR := List.mem_append.mpr (.inr (List.mem_append.mpr (.inr (List.mem_append.mpr (.inr (List.mem_append.mpr (.inr (List.mem_append.mpr (.inr (List.mem_append.mpr (.inr (List.mem_append.mpr (.inr (List.mem_append.mpr (.inl m)))))))))))))))
theorem inK {f : He.Fa} (m : f ∈ faCon) : f ∈ faR := List.mem_append.mpr (.inr (List.mem_append.mpr (.inr (List.mem_append.mpr (.inr (List.mem_append.mpr (.inr (List.mem_append.mpr (.inr (List.mem_append.mpr (.inr (List.mem_append.mpr (.inr (List.mem_append.mpr (.inr m)))))))))))))))
theorem hw_of (X : K.In h) (G : h.Ns mainGlobals mg) (c : obsR K = valR w) : HW P w K mg base (tR K) := by
  have c1 : He.SaysT faR fnR tsR w K := congrArg (fun z : AlR => z.1) c
  have c2 : gnl.map (fnG K) = gnl.map He.DefD.val := congrArg (fun z : AlR => z.2.1) c
  have c3 : exR K = true := congrArg (fun z : AlR => z.2.2) c
  have F : ∀ {f : He.Fa}, f ∈ faR → f.ok K = true := fun m => c1.d.facts m
  obtain ⟨x1, c3⟩ := Bool.and_eq_true_iff.mp c3
  obtain ⟨x2, c3⟩ := Bool.and_eq_true_iff.mp c3
  obtain ⟨x3, c3⟩ := Bool.and_eq_true_iff.mp c3
  obtain ⟨x4, c3⟩ := Bool.and_eq_true_iff.mp c3
  obtain ⟨x5, c3⟩ := Bool.and_eq_true_iff.mp c3
  obtain ⟨x6, x7⟩ := Bool.and_eq_true_iff.mp c3
  have glo : ∀ {x : Str}, x ∈ nm.fid.map (fun p => p.1) ++ (gnames ++ (cnames ++ gxN)) → mg x = some (.ref (He.ga K x)) := fun m => He.glo_ok X G (F (inG (List.mem_map_of_mem m)))
  have fre : ∀ {x : Str}, x ∈ frees ++ blts → mg x = none := fun m => He.free_ok X G (F (inF (List.mem_map_of_mem m)))
  have glx : ∀ {x : Str}, x ∈ gxN → mg x = some (.ref (He.ga K x)) := fun m => glo (List.mem_append.mpr (.inr (List.mem_append.mpr (.inr (List.mem_append.mpr (.inr m))))))
  have dh : DH P w K mg (tR K) := {
    hf := {
      cls := He.cls_ok (F (inC (List.mem_map_of_mem (List.mem_cons_self ..))))
      fld := rfl
      fnd := by decide +kernel
      noat := fun f m => He.noat_ok (F (inN1 (List.mem_map_of_mem m)))
      nometh := by decide +kernel
      glo := fun x j d e1 e2 => by
        have z := List.all_eq_true.mp x4 _ (lookup_mem' e1)
        simp only [e2] at z
        obtain ⟨u, v, q1, q2, q3⟩ := namB_ok (T := tR K) z
        exact ⟨u, v, PySem.W.mg_of X G q1, q2, q3⟩
      tab := fun x j e1 => by
        have hm := lookup_mem' e1
        have z := List.all_eq_true.mp x5 _ hm
        have kd : mg x = some (.ref (He.ga K x)) ∧ ∃ es n, KDict K w (He.ga K x) es n := by
          rcases List.mem_cons.mp (show (x, j) ∈ [(("CLAUSES" : Str), 0), (("CLOSERS" : Str), 1)] from hm) with e | hm
          · cases e
            exact ⟨glx (by decide), c1.tab 0⟩
          · cases List.mem_singleton.mp hm
            exact ⟨glx (by decide), c1.tab 1⟩
        obtain ⟨k1, es, n, k2⟩ := kd
        refine ⟨He.ga K x, es, n, k1, k2, fun k d e => ?_⟩
        obtain ⟨u, v, q1, q2, q3⟩ := namB_ok (T := tR K) (List.all_eq_true.mp z _ (lookK_zip e))
        exact ⟨u, v, q1, q2, q3⟩
      blt := fun x m => fre (List.mem_append.mpr (.inr m)) }
    defs := fun d m => c1.d.defs (List.mem_append.mpr (.inl m))
    glo := fun p m => glo (List.mem_append.mpr (.inl (List.mem_map_of_mem m)))
    meth := fun p m => He.meth_ok (F (inE1 (List.mem_map_of_mem m)))
    dfi := repAll_ok x6
    dfs := repAll_ok x7
    fl := fun _ => fun z => nomatch z
    st := glx (by decide)
    mk_ := He.mkr_ok (F (inM (List.mem_map_of_mem (List.mem_cons_self ..)))) }
  exact {
    dh := dh
    tat := fun _ => rfl
    B := all_ok dh 30
    cls := fun x m => He.cls_ok (F (inC (List.mem_map_of_mem (List.mem_cons_of_mem _ m))))
    mgc := fun x m => glo (List.mem_append.mpr (.inr (List.mem_append.mpr (.inr (List.mem_append.mpr (.inl m))))))
    mk_ := fun x m => He.mkr_ok (F (inM (List.mem_map_of_mem (List.mem_cons_of_mem _ m))))
    apart := fun x m => by
      have z := List.all_eq_true.mp x1 x m
      intro e
      rw [show He.ga K stN = cAd K x from e.symm, Nat.beq_refl] at z
      cases z
    noat := fun p m => He.noat_ok (F (inN2 (List.mem_map.mpr ⟨p, m, rfl⟩)))
    meth := fun p m => He.meth_ok (F (inE2 (List.mem_map.mpr ⟨p, m, rfl⟩)))
    prop := fun p m => ⟨_, propB_ok (List.all_eq_true.mp x2 p m)⟩
    hd := fun d m => c1.d.defs (List.mem_append.mpr (.inr m))
    gd := fun d m => by
      obtain ⟨i, hi, e⟩ := List.mem_iff_getElem.mp m
      have e2 : (gnl.map (fnG K))[i]? = (gnl.map He.DefD.val)[i]? := by rw [c2]
      rw [List.getElem?_map, List.getElem?_map, List.getElem?_eq_getElem hi, e] at e2
      exact gk_of (Option.some.inj e2) (List.all_eq_true.mp x3 d m)
    free := fun x m => fre (List.mem_append.mpr (.inl m))
    glo := fun x m => glo (List.mem_append.mpr (.inr (List.mem_append.mpr (.inl m))))
    fresh_ := He.str_ok X G (F (inK (List.mem_of_getElem? (i := 0) rfl)))
    more_ := He.str_ok X G (F (inK (List.mem_of_getElem? (i := 1) rfl)))
    wrong_ := He.str_ok X G (F (inK (List.mem_of_getElem? (i := 2) rfl)))
    most_ := He.int_ok X G (F (inK (List.mem_of_getElem? (i := 3) rfl)))
    great_ := He.int_ok X G (F (inK (List.mem_of_getElem? (i := 4) rfl))) }
theorem law_at (X : K.In h) (G : h.Ns mainGlobals mg) (c : obsR K = valR w) : mg ("law" : Str) = some (.ref (He.fAd K ("law", none))) :=
  He.glo_ok X G (SaysD_law c)
where SaysD_law (c : obsR K = valR w) : (He.Fa.glo "law").ok K = true :=
  He.SaysD.facts (He.SaysT.d (congrArg (fun z : AlR => z.1) c)) (inG (List.mem_map_of_mem (List.mem_append.mpr (.inr (List.mem_append.mpr (.inr (List.mem_append.mpr (.inr (List.mem_of_getElem? (i := 1) rfl)))))))))
end
end Rp
open PySem PySem.W PySem.Calls PyProof.Rows
set_option maxRecDepth 100000 in
set_option maxHeartbeats 0 in
theorem PySem.Challenge.cw_replinput_k66_whole_consoles_fed_with_li_holds : PySem.Challenge.rw_replinput_k66_whole_consoles_fed_with_li.Holds := by
  w_on; o_law
  refine HandSHeadRun.head_any (r := OpenLaw.row PySem.Challenge.rw_replinput_k66_whole_consoles_fed_with_li) (q := Rp.qR) (H := Rp.hookR) (ob := Rp.obR) (M := 20000) (loose := Rp.loose) (d := HandSHeadRun.topDef (OpenLaw.row PySem.Challenge.rw_replinput_k66_whole_consoles_fed_with_li).prog 112) (kwd := []) Rp.obR_eq
    (by kernel_rfl) (fun s => by kernel_rfl) Rp.run_all (by kernel_rfl) (by kernel_rfl) (by kernel_rfl) (by rfl) (by first | assumption | decide +kernel) (by decide +kernel) ⟨rfl, rfl, rfl, rfl, rfl, by decide +kernel⟩ ?hw ?hc
  case hw => w_witness2
  case hc =>
    refine Rp.walk_G (l := PySem.Challenge.rw_replinput_k66_whole_consoles_fed_with_li) (n := 63) (k := 40) rfl (by decide) (by kernel_rfl) ⟨rfl, by decide, by decide⟩ fun w mg fa h Y G hmg0 => ?_
    obtain ⟨K, KX, c⟩ := Y
    have hmg : mg ("law" : PySem.Str) = some (.ref fa) := by
      have e : (HandSHeadRun.topDef (OpenLaw.row PySem.Challenge.rw_replinput_k66_whole_consoles_fed_with_li).prog 112).name = ("law" : PySem.Str) := by kernel_rfl
      rw [← e]
      exact hmg0
    have e2 := hmg.symm.trans (Rp.law_at KX G c)
    cases e2
    exact ⟨K, Rp.spLawG K, KX, fun H a ns hl hS => ⟨a, ns, rfl, hS, hl, fun _ => rfl⟩, fun base _ _ => Rp.ok_law (Rp.hw_of KX G c)⟩
