import PyProof.Rows.All
import Wide.All
import OpenK.AllK
import Wide.FinOn
import Lean
import PySem.Challenge.RW_pb0281_01
set_option Elab.async false
set_option maxRecDepth 100000
set_option linter.unusedVariables false
set_option compiler.extract_closed false
set_option maxHeartbeats 4000000
section
open PySem PySem.W PySem.Calls PyProof.Rows
set_option maxHeartbeats 4000000
namespace Mine
noncomputable section
noncomputable abbrev pw : Program := PySem.Challenge.pw_pb0281_01
noncomputable abbrev z (x : String) : PySem.Str := PySem.Str.ofString x
noncomputable abbrev v (x : String) (t : Nat) : Value := .str (PySem.Str.ofString x) t
noncomputable abbrev r (a : Nat) : Value := .ref a
noncomputable abbrev nn : Value := .none
noncomputable abbrev jn (n : Nat) : Value := .int (Int.ofNat n) 0
noncomputable abbrev vc (t : Nat) : Value := .str (PySem.Str.ofString "/claim/cut.py") t
noncomputable abbrev fl (l : List Value) : Obj := ⟨.none, none, .fields l.toArray, [].toArray⟩
noncomputable abbrev fo (f : FuncData) : Obj := ⟨.type "function", none, .func f, [].toArray⟩
noncomputable abbrev bn (o : Obj) (x y : BT) : BT := .node o x y
noncomputable abbrev bl (o : Obj) : BT := .node o .nil .nil
noncomputable abbrev tp (l : List Value) : Obj := { cls := .type "tuple", data := .seq l.toArray }
noncomputable abbrev cd (l : List Value) : Obj := { cls := .type "code", data := .fields l.toArray }
noncomputable abbrev d (P : Params) (x : String) (t : Nat) (y : Value) : DictEntry := { hash := PyData.keyHash P (PySem.Str.ofString x), key := .str (PySem.Str.ofString x) t, val := y }
noncomputable def st (i : Nat) : Stmt := pw.main.body.getD i (.Pass default)
noncomputable abbrev resv : PySem.Str := match st 64 with
  | .Assign _ (.Constant (.str x) _ _) _ => x
  | _ => default
noncomputable def me (i j : Nat) : Stmt := match st i with
  | .ClassDef _ _ _ b _ _ _ _ _ _ _ => b.getD j (.Pass default)
  | _ => .Pass default
noncomputable def fn (s : Stmt) (qual : PySem.Str) (dV pm code : Value) : FuncData := match s with
  | .FunctionDef name a b _ _ _ sc _ _ _ => { name, qualname := qual, params := a, body := .stmts b, scope := sc, globals := mainGlobals, closure := [], defaults := dV, kwdefaults := .none, doc := .none, pyModule := pm, annotations := none, code, closureTuple := .none, builtins := builtinsNs }
  | _ => default
noncomputable def fp (s : Stmt) (qual : PySem.Str) : FuncData := match s with
  | .FunctionDef name a b _ _ _ sc _ _ _ => { name, qualname := qual, params := a, body := .stmts b, scope := sc, globals := 0, closure := [], defaults := .none, kwdefaults := .none, doc := .none, pyModule := .none, annotations := none, code := .none, closureTuple := .none, builtins := 0 }
  | _ => default
noncomputable def o2_1 (P : Params) : Obj := ⟨nn, none, (.dict [d P "type.__subclasses__.Exception.0" 232 (jn 47), d P "type.__subclasses__.Exception.n" 233 (jn 1)].toArray 2), [].toArray⟩
noncomputable def o3_1 (P : Params) : Obj := ⟨(.type "dict"), none, (.dict [d P "__name__" 165 (v "ledgerspeak.errors" 194), d P "__doc__" 166 nn, d P "__package__" 167 nn, d P "__loader__" 168 (.builtin "__main__.__loader__#opaque"), d P "__spec__" 169 nn, d P "__annotations__" 170 (r 6), d P "__builtins__" 171 (r 4), d P "__file__" 173 (vc 172), d P "__cached__" 174 nn, d P "_wall" 193 (r 21), d P "LedgerError" 235 (r 47)].toArray 11), [].toArray⟩
noncomputable def o3_2 (P : Params) : Obj := ⟨(.type "dict"), none, (.dict [d P "__name__" 165 (v "ledgerspeak.errors" 194), d P "__doc__" 166 nn, d P "__package__" 167 nn, d P "__loader__" 168 (.builtin "__main__.__loader__#opaque"), d P "__spec__" 169 nn, d P "__annotations__" 170 (r 6), d P "__builtins__" 171 (r 4), d P "__file__" 173 (vc 172), d P "__cached__" 174 nn, d P "_wall" 193 (r 21), d P "LedgerError" 235 (r 47), d P "TokenFault" 251 (r 60)].toArray 12), [].toArray⟩
noncomputable def o3_3 (P : Params) : Obj := ⟨(.type "dict"), none, (.dict [d P "__name__" 165 (v "ledgerspeak.decimals" 268), d P "__doc__" 166 nn, d P "__package__" 167 nn, d P "__loader__" 168 (.builtin "__main__.__loader__#opaque"), d P "__spec__" 169 nn, d P "__annotations__" 170 (r 6), d P "__builtins__" 171 (r 4), d P "__file__" 173 (vc 172), d P "__cached__" 174 nn, d P "_wall" 193 (r 21), d P "LedgerError" 235 (r 47), d P "TokenFault" 251 (r 60), d P "GrammarFault" 267 (r 72), d P "FIGURES" 271 (v "0123456789" 270), d P "cut_quotient" 279 (r 81), d P "decimal" 288 (r 89), d P "negated" 295 (r 96), d P "units_at" 306 (r 103), d P "is_whole" 313 (r 110)].toArray 19), [].toArray⟩
noncomputable def o3_4 (P : Params) : Obj := ⟨(.type "dict"), none, (.dict [d P "__name__" 165 (v "ledgerspeak.references" 343), d P "__doc__" 166 nn, d P "__package__" 167 nn, d P "__loader__" 168 (.builtin "__main__.__loader__#opaque"), d P "__spec__" 169 nn, d P "__annotations__" 170 (r 6), d P "__builtins__" 171 (r 4), d P "__file__" 173 (vc 172), d P "__cached__" 174 nn, d P "_wall" 193 (r 21), d P "LedgerError" 235 (r 47), d P "TokenFault" 251 (r 60), d P "GrammarFault" 267 (r 72), d P "FIGURES" 271 (v "0123456789" 270), d P "cut_quotient" 279 (r 81), d P "decimal" 288 (r 89), d P "negated" 295 (r 96), d P "units_at" 306 (r 103), d P "is_whole" 313 (r 110), d P "whole_of" 320 (r 117), d P "worth_of" 329 (r 124), d P "read_decimal" 342 (r 131), d P "MOST_SUBSCRIPTS" 346 (.int 7 345), d P "FIGURE_NAMES" 380 (r 132), d P "is_part_next" 389 (r 139), d P "read_subscripts" 398 (r 146), d P "read_part" 408 (r 153)].toArray 27), [].toArray⟩
noncomputable def o3_5 (P : Params) : Obj := ⟨(.type "dict"), none, (.dict [d P "__name__" 165 (v "ledgerspeak.expressions" 445), d P "__doc__" 166 nn, d P "__package__" 167 nn, d P "__loader__" 168 (.builtin "__main__.__loader__#opaque"), d P "__spec__" 169 nn, d P "__annotations__" 170 (r 6), d P "__builtins__" 171 (r 4), d P "__file__" 173 (vc 172), d P "__cached__" 174 nn, d P "_wall" 193 (r 21), d P "LedgerError" 235 (r 47), d P "TokenFault" 251 (r 60), d P "GrammarFault" 267 (r 72), d P "FIGURES" 271 (v "0123456789" 270), d P "cut_quotient" 279 (r 81), d P "decimal" 288 (r 89), d P "negated" 295 (r 96), d P "units_at" 306 (r 103), d P "is_whole" 313 (r 110), d P "whole_of" 320 (r 117), d P "worth_of" 329 (r 124), d P "read_decimal" 342 (r 131), d P "MOST_SUBSCRIPTS" 346 (.int 7 345), d P "FIGURE_NAMES" 380 (r 132), d P "is_part_next" 389 (r 139), d P "read_subscripts" 398 (r 146), d P "read_part" 408 (r 153), d P "read_ref" 420 (r 160), d P "read_all" 428 (r 167), d P "read_figure" 435 (r 174), d P "read_operand" 444 (r 181), d P "MOST_DEEP_expressions" 448 (.int 20 447), d P "read_expression" 455 (r 188), d P "sign_among" 464 (r 195), d P "read_sum" 474 (r 202), d P "read_product" 484 (r 209), d P "read_factor" 495 (r 216), d P "is_lone_number" 504 (r 223), d P "read_power" 513 (r 230), d P "read_primary" 523 (r 237)].toArray 40), [].toArray⟩
noncomputable def o3_6 (P : Params) : Obj := ⟨(.type "dict"), none, (.dict [d P "__name__" 165 (v "ledgerspeak.conditions" 524), d P "__doc__" 166 nn, d P "__package__" 167 nn, d P "__loader__" 168 (.builtin "__main__.__loader__#opaque"), d P "__spec__" 169 nn, d P "__annotations__" 170 (r 6), d P "__builtins__" 171 (r 4), d P "__file__" 173 (vc 172), d P "__cached__" 174 nn, d P "_wall" 193 (r 21), d P "LedgerError" 235 (r 47), d P "TokenFault" 251 (r 60), d P "GrammarFault" 267 (r 72), d P "FIGURES" 271 (v "0123456789" 270), d P "cut_quotient" 279 (r 81), d P "decimal" 288 (r 89), d P "negated" 295 (r 96), d P "units_at" 306 (r 103), d P "is_whole" 313 (r 110), d P "whole_of" 320 (r 117), d P "worth_of" 329 (r 124), d P "read_decimal" 342 (r 131), d P "MOST_SUBSCRIPTS" 346 (.int 7 345), d P "FIGURE_NAMES" 380 (r 132), d P "is_part_next" 389 (r 139), d P "read_subscripts" 398 (r 146), d P "read_part" 408 (r 153), d P "read_ref" 420 (r 160), d P "read_all" 428 (r 167), d P "read_figure" 435 (r 174), d P "read_operand" 444 (r 181), d P "MOST_DEEP_expressions" 448 (.int 20 447), d P "read_expression" 455 (r 188), d P "sign_among" 464 (r 195), d P "read_sum" 474 (r 202), d P "read_product" 484 (r 209), d P "read_factor" 495 (r 216), d P "is_lone_number" 504 (r 223), d P "read_power" 513 (r 230), d P "read_primary" 523 (r 237), d P "MOST_DEEP_conditions" 527 (.int 20 526), d P "OPPOSITES" 546 (r 238), d P "CLASSES" 551 (r 239), d P "WORDS_OF_SIGNS" 567 (r 240), d P "WORDS_OF_RELATIONS" 577 (r 241), d P "RELATIONS" 583 (r 242), d P "word_here" 593 (r 250), d P "is_relation_at" 602 (r 257), d P "place_of_word" 610 (r 264)].toArray 49), [].toArray⟩
noncomputable def o3_7 (P : Params) : Obj := ⟨(.type "dict"), none, (.dict [d P "__name__" 165 (v "ledgerspeak.conditions" 524), d P "__doc__" 166 nn, d P "__package__" 167 nn, d P "__loader__" 168 (.builtin "__main__.__loader__#opaque"), d P "__spec__" 169 nn, d P "__annotations__" 170 (r 6), d P "__builtins__" 171 (r 4), d P "__file__" 173 (vc 172), d P "__cached__" 174 nn, d P "_wall" 193 (r 21), d P "LedgerError" 235 (r 47), d P "TokenFault" 251 (r 60), d P "GrammarFault" 267 (r 72), d P "FIGURES" 271 (v "0123456789" 270), d P "cut_quotient" 279 (r 81), d P "decimal" 288 (r 89), d P "negated" 295 (r 96), d P "units_at" 306 (r 103), d P "is_whole" 313 (r 110), d P "whole_of" 320 (r 117), d P "worth_of" 329 (r 124), d P "read_decimal" 342 (r 131), d P "MOST_SUBSCRIPTS" 346 (.int 7 345), d P "FIGURE_NAMES" 380 (r 132), d P "is_part_next" 389 (r 139), d P "read_subscripts" 398 (r 146), d P "read_part" 408 (r 153), d P "read_ref" 420 (r 160), d P "read_all" 428 (r 167), d P "read_figure" 435 (r 174), d P "read_operand" 444 (r 181), d P "MOST_DEEP_expressions" 448 (.int 20 447), d P "read_expression" 455 (r 188), d P "sign_among" 464 (r 195), d P "read_sum" 474 (r 202), d P "read_product" 484 (r 209), d P "read_factor" 495 (r 216), d P "is_lone_number" 504 (r 223), d P "read_power" 513 (r 230), d P "read_primary" 523 (r 237), d P "MOST_DEEP_conditions" 527 (.int 20 526), d P "OPPOSITES" 546 (r 238), d P "CLASSES" 551 (r 239), d P "WORDS_OF_SIGNS" 567 (r 240), d P "WORDS_OF_RELATIONS" 577 (r 241), d P "RELATIONS" 583 (r 242), d P "word_here" 593 (r 250), d P "is_relation_at" 602 (r 257), d P "place_of_word" 610 (r 264), d P "is_predicate_here" 619 (r 271), d P "is_bare_relation_here" 626 (r 278)].toArray 51), [].toArray⟩
noncomputable def o3_8 (P : Params) : Obj := ⟨(.type "dict"), none, (.dict [d P "__name__" 165 (v "ledgerspeak.conditions" 524), d P "__doc__" 166 nn, d P "__package__" 167 nn, d P "__loader__" 168 (.builtin "__main__.__loader__#opaque"), d P "__spec__" 169 nn, d P "__annotations__" 170 (r 6), d P "__builtins__" 171 (r 4), d P "__file__" 173 (vc 172), d P "__cached__" 174 nn, d P "_wall" 193 (r 21), d P "LedgerError" 235 (r 47), d P "TokenFault" 251 (r 60), d P "GrammarFault" 267 (r 72), d P "FIGURES" 271 (v "0123456789" 270), d P "cut_quotient" 279 (r 81), d P "decimal" 288 (r 89), d P "negated" 295 (r 96), d P "units_at" 306 (r 103), d P "is_whole" 313 (r 110), d P "whole_of" 320 (r 117), d P "worth_of" 329 (r 124), d P "read_decimal" 342 (r 131), d P "MOST_SUBSCRIPTS" 346 (.int 7 345), d P "FIGURE_NAMES" 380 (r 132), d P "is_part_next" 389 (r 139), d P "read_subscripts" 398 (r 146), d P "read_part" 408 (r 153), d P "read_ref" 420 (r 160), d P "read_all" 428 (r 167), d P "read_figure" 435 (r 174), d P "read_operand" 444 (r 181), d P "MOST_DEEP_expressions" 448 (.int 20 447), d P "read_expression" 455 (r 188), d P "sign_among" 464 (r 195), d P "read_sum" 474 (r 202), d P "read_product" 484 (r 209), d P "read_factor" 495 (r 216), d P "is_lone_number" 504 (r 223), d P "read_power" 513 (r 230), d P "read_primary" 523 (r 237), d P "MOST_DEEP_conditions" 527 (.int 20 526), d P "OPPOSITES" 546 (r 238), d P "CLASSES" 551 (r 239), d P "WORDS_OF_SIGNS" 567 (r 240), d P "WORDS_OF_RELATIONS" 577 (r 241), d P "RELATIONS" 583 (r 242), d P "word_here" 593 (r 250), d P "is_relation_at" 602 (r 257), d P "place_of_word" 610 (r 264), d P "is_predicate_here" 619 (r 271), d P "is_bare_relation_here" 626 (r 278), d P "ConditionReader" 754 (r 372)].toArray 52), [].toArray⟩
noncomputable def o3_9 (P : Params) : Obj := ⟨(.type "dict"), none, (.dict [d P "__name__" 165 (v "ledgerspeak.readdata" 835), d P "__doc__" 166 nn, d P "__package__" 167 nn, d P "__loader__" 168 (.builtin "__main__.__loader__#opaque"), d P "__spec__" 169 nn, d P "__annotations__" 170 (r 6), d P "__builtins__" 171 (r 4), d P "__file__" 173 (vc 172), d P "__cached__" 174 nn, d P "_wall" 193 (r 21), d P "LedgerError" 235 (r 47), d P "TokenFault" 251 (r 60), d P "GrammarFault" 267 (r 72), d P "FIGURES" 271 (v "0123456789" 270), d P "cut_quotient" 279 (r 81), d P "decimal" 288 (r 89), d P "negated" 295 (r 96), d P "units_at" 306 (r 103), d P "is_whole" 313 (r 110), d P "whole_of" 320 (r 117), d P "worth_of" 329 (r 124), d P "read_decimal" 342 (r 131), d P "MOST_SUBSCRIPTS" 346 (.int 7 345), d P "FIGURE_NAMES" 380 (r 132), d P "is_part_next" 389 (r 139), d P "read_subscripts" 398 (r 146), d P "read_part" 408 (r 153), d P "read_ref" 420 (r 160), d P "read_all" 428 (r 167), d P "read_figure" 435 (r 174), d P "read_operand" 444 (r 181), d P "MOST_DEEP_expressions" 448 (.int 20 447), d P "read_expression" 455 (r 188), d P "sign_among" 464 (r 195), d P "read_sum" 474 (r 202), d P "read_product" 484 (r 209), d P "read_factor" 495 (r 216), d P "is_lone_number" 504 (r 223), d P "read_power" 513 (r 230), d P "read_primary" 523 (r 237), d P "MOST_DEEP_conditions" 527 (.int 20 526), d P "OPPOSITES" 546 (r 238), d P "CLASSES" 551 (r 239), d P "WORDS_OF_SIGNS" 567 (r 240), d P "WORDS_OF_RELATIONS" 577 (r 241), d P "RELATIONS" 583 (r 242), d P "word_here" 593 (r 250), d P "is_relation_at" 602 (r 257), d P "place_of_word" 610 (r 264), d P "is_predicate_here" 619 (r 271), d P "is_bare_relation_here" 626 (r 278), d P "ConditionReader" 754 (r 372), d P "read_condition" 763 (r 384), d P "word_ahead" 775 (r 391), d P "phrase_words" 782 (r 398), d P "opening_length" 796 (r 405), d P "body_here" 805 (r 412), d P "branches_here" 818 (r 419), d P "ref_here" 825 (r 426), d P "refuse_at" 834 (r 433), d P "is_key_condition" 843 (r 440), d P "table_here" 852 (r 447), d P "read_search_all" 864 (r 454)].toArray 63), [].toArray⟩
noncomputable def o3_10 (P : Params) : Obj := ⟨(.type "dict"), none, (.dict [d P "__name__" 165 (v "ledgerspeak.reader" 877), d P "__doc__" 166 nn, d P "__package__" 167 nn, d P "__loader__" 168 (.builtin "__main__.__loader__#opaque"), d P "__spec__" 169 nn, d P "__annotations__" 170 (r 6), d P "__builtins__" 171 (r 4), d P "__file__" 173 (vc 172), d P "__cached__" 174 nn, d P "_wall" 193 (r 21), d P "LedgerError" 235 (r 47), d P "TokenFault" 251 (r 60), d P "GrammarFault" 267 (r 72), d P "FIGURES" 271 (v "0123456789" 270), d P "cut_quotient" 279 (r 81), d P "decimal" 288 (r 89), d P "negated" 295 (r 96), d P "units_at" 306 (r 103), d P "is_whole" 313 (r 110), d P "whole_of" 320 (r 117), d P "worth_of" 329 (r 124), d P "read_decimal" 342 (r 131), d P "MOST_SUBSCRIPTS" 346 (.int 7 345), d P "FIGURE_NAMES" 380 (r 132), d P "is_part_next" 389 (r 139), d P "read_subscripts" 398 (r 146), d P "read_part" 408 (r 153), d P "read_ref" 420 (r 160), d P "read_all" 428 (r 167), d P "read_figure" 435 (r 174), d P "read_operand" 444 (r 181), d P "MOST_DEEP_expressions" 448 (.int 20 447), d P "read_expression" 455 (r 188), d P "sign_among" 464 (r 195), d P "read_sum" 474 (r 202), d P "read_product" 484 (r 209), d P "read_factor" 495 (r 216), d P "is_lone_number" 504 (r 223), d P "read_power" 513 (r 230), d P "read_primary" 523 (r 237), d P "MOST_DEEP_conditions" 527 (.int 20 526), d P "OPPOSITES" 546 (r 238), d P "CLASSES" 551 (r 239), d P "WORDS_OF_SIGNS" 567 (r 240), d P "WORDS_OF_RELATIONS" 577 (r 241), d P "RELATIONS" 583 (r 242), d P "word_here" 593 (r 250), d P "is_relation_at" 602 (r 257), d P "place_of_word" 610 (r 264), d P "is_predicate_here" 619 (r 271), d P "is_bare_relation_here" 626 (r 278), d P "ConditionReader" 754 (r 372), d P "read_condition" 763 (r 384), d P "word_ahead" 775 (r 391), d P "phrase_words" 782 (r 398), d P "opening_length" 796 (r 405), d P "body_here" 805 (r 412), d P "branches_here" 818 (r 419), d P "ref_here" 825 (r 426), d P "refuse_at" 834 (r 433), d P "is_key_condition" 843 (r 440), d P "table_here" 852 (r 447), d P "read_search_all" 864 (r 454), d P "read_search" 876 (r 461), d P "MOST_OCTET" 880 (.int 255 879), d P "RESERVED" 882 (.str resv 881), d P "is_reserved" 889 (r 468), d P "octets_of_text" 895 (r 473)].toArray 68), [].toArray⟩
noncomputable def o3_11 (P : Params) : Obj := ⟨(.type "dict"), none, (.dict [d P "__name__" 165 (v "ledgerspeak.reader" 877), d P "__doc__" 166 nn, d P "__package__" 167 nn, d P "__loader__" 168 (.builtin "__main__.__loader__#opaque"), d P "__spec__" 169 nn, d P "__annotations__" 170 (r 6), d P "__builtins__" 171 (r 4), d P "__file__" 173 (vc 172), d P "__cached__" 174 nn, d P "_wall" 193 (r 21), d P "LedgerError" 235 (r 47), d P "TokenFault" 251 (r 60), d P "GrammarFault" 267 (r 72), d P "FIGURES" 271 (v "0123456789" 270), d P "cut_quotient" 279 (r 81), d P "decimal" 288 (r 89), d P "negated" 295 (r 96), d P "units_at" 306 (r 103), d P "is_whole" 313 (r 110), d P "whole_of" 320 (r 117), d P "worth_of" 329 (r 124), d P "read_decimal" 342 (r 131), d P "MOST_SUBSCRIPTS" 346 (.int 7 345), d P "FIGURE_NAMES" 380 (r 132), d P "is_part_next" 389 (r 139), d P "read_subscripts" 398 (r 146), d P "read_part" 408 (r 153), d P "read_ref" 420 (r 160), d P "read_all" 428 (r 167), d P "read_figure" 435 (r 174), d P "read_operand" 444 (r 181), d P "MOST_DEEP_expressions" 448 (.int 20 447), d P "read_expression" 455 (r 188), d P "sign_among" 464 (r 195), d P "read_sum" 474 (r 202), d P "read_product" 484 (r 209), d P "read_factor" 495 (r 216), d P "is_lone_number" 504 (r 223), d P "read_power" 513 (r 230), d P "read_primary" 523 (r 237), d P "MOST_DEEP_conditions" 527 (.int 20 526), d P "OPPOSITES" 546 (r 238), d P "CLASSES" 551 (r 239), d P "WORDS_OF_SIGNS" 567 (r 240), d P "WORDS_OF_RELATIONS" 577 (r 241), d P "RELATIONS" 583 (r 242), d P "word_here" 593 (r 250), d P "is_relation_at" 602 (r 257), d P "place_of_word" 610 (r 264), d P "is_predicate_here" 619 (r 271), d P "is_bare_relation_here" 626 (r 278), d P "ConditionReader" 754 (r 372), d P "read_condition" 763 (r 384), d P "word_ahead" 775 (r 391), d P "phrase_words" 782 (r 398), d P "opening_length" 796 (r 405), d P "body_here" 805 (r 412), d P "branches_here" 818 (r 419), d P "ref_here" 825 (r 426), d P "refuse_at" 834 (r 433), d P "is_key_condition" 843 (r 440), d P "table_here" 852 (r 447), d P "read_search_all" 864 (r 454), d P "read_search" 876 (r 461), d P "MOST_OCTET" 880 (.int 255 879), d P "RESERVED" 882 (.str resv 881), d P "is_reserved" 889 (r 468), d P "octets_of_text" 895 (r 473), d P "Reader" 1102 (r 642)].toArray 69), [].toArray⟩
noncomputable def o3_12 (P : Params) : Obj := ⟨(.type "dict"), none, (.dict [d P "__name__" 165 (v "law_pb0281_01" 1149), d P "__doc__" 166 nn, d P "__package__" 167 nn, d P "__loader__" 168 (.builtin "__main__.__loader__#opaque"), d P "__spec__" 169 nn, d P "__annotations__" 170 (r 6), d P "__builtins__" 171 (r 4), d P "__file__" 173 (vc 172), d P "__cached__" 174 nn, d P "_wall" 193 (r 21), d P "LedgerError" 235 (r 47), d P "TokenFault" 251 (r 60), d P "GrammarFault" 267 (r 72), d P "FIGURES" 271 (v "0123456789" 270), d P "cut_quotient" 279 (r 81), d P "decimal" 288 (r 89), d P "negated" 295 (r 96), d P "units_at" 306 (r 103), d P "is_whole" 313 (r 110), d P "whole_of" 320 (r 117), d P "worth_of" 329 (r 124), d P "read_decimal" 342 (r 131), d P "MOST_SUBSCRIPTS" 346 (.int 7 345), d P "FIGURE_NAMES" 380 (r 132), d P "is_part_next" 389 (r 139), d P "read_subscripts" 398 (r 146), d P "read_part" 408 (r 153), d P "read_ref" 420 (r 160), d P "read_all" 428 (r 167), d P "read_figure" 435 (r 174), d P "read_operand" 444 (r 181), d P "MOST_DEEP_expressions" 448 (.int 20 447), d P "read_expression" 455 (r 188), d P "sign_among" 464 (r 195), d P "read_sum" 474 (r 202), d P "read_product" 484 (r 209), d P "read_factor" 495 (r 216), d P "is_lone_number" 504 (r 223), d P "read_power" 513 (r 230), d P "read_primary" 523 (r 237), d P "MOST_DEEP_conditions" 527 (.int 20 526), d P "OPPOSITES" 546 (r 238), d P "CLASSES" 551 (r 239), d P "WORDS_OF_SIGNS" 567 (r 240), d P "WORDS_OF_RELATIONS" 577 (r 241), d P "RELATIONS" 583 (r 242), d P "word_here" 593 (r 250), d P "is_relation_at" 602 (r 257), d P "place_of_word" 610 (r 264), d P "is_predicate_here" 619 (r 271), d P "is_bare_relation_here" 626 (r 278), d P "ConditionReader" 754 (r 372), d P "read_condition" 763 (r 384), d P "word_ahead" 775 (r 391), d P "phrase_words" 782 (r 398), d P "opening_length" 796 (r 405), d P "body_here" 805 (r 412), d P "branches_here" 818 (r 419), d P "ref_here" 825 (r 426), d P "refuse_at" 834 (r 433), d P "is_key_condition" 843 (r 440), d P "table_here" 852 (r 447), d P "read_search_all" 864 (r 454), d P "read_search" 876 (r 461), d P "MOST_OCTET" 880 (.int 255 879), d P "RESERVED" 882 (.str resv 881), d P "is_reserved" 889 (r 468), d P "octets_of_text" 895 (r 473), d P "Reader" 1102 (r 642), d P "Token" 1148 (r 672), d P "_law_pen" 1156 (r 681), d P "_law_draw" 1167 (r 688), d P "_law_pick" 1175 (r 695), d P "_law_words" 1181 (r 700)].toArray 74), [].toArray⟩
noncomputable def o3_13 (P : Params) : Obj := ⟨(.type "dict"), none, (.dict [d P "__name__" 165 (v "law_pb0281_01" 1149), d P "__doc__" 166 nn, d P "__package__" 167 nn, d P "__loader__" 168 (.builtin "__main__.__loader__#opaque"), d P "__spec__" 169 nn, d P "__annotations__" 170 (r 6), d P "__builtins__" 171 (r 4), d P "__file__" 173 (vc 172), d P "__cached__" 174 nn, d P "_wall" 193 (r 21), d P "LedgerError" 235 (r 47), d P "TokenFault" 251 (r 60), d P "GrammarFault" 267 (r 72), d P "FIGURES" 271 (v "0123456789" 270), d P "cut_quotient" 279 (r 81), d P "decimal" 288 (r 89), d P "negated" 295 (r 96), d P "units_at" 306 (r 103), d P "is_whole" 313 (r 110), d P "whole_of" 320 (r 117), d P "worth_of" 329 (r 124), d P "read_decimal" 342 (r 131), d P "MOST_SUBSCRIPTS" 346 (.int 7 345), d P "FIGURE_NAMES" 380 (r 132), d P "is_part_next" 389 (r 139), d P "read_subscripts" 398 (r 146), d P "read_part" 408 (r 153), d P "read_ref" 420 (r 160), d P "read_all" 428 (r 167), d P "read_figure" 435 (r 174), d P "read_operand" 444 (r 181), d P "MOST_DEEP_expressions" 448 (.int 20 447), d P "read_expression" 455 (r 188), d P "sign_among" 464 (r 195), d P "read_sum" 474 (r 202), d P "read_product" 484 (r 209), d P "read_factor" 495 (r 216), d P "is_lone_number" 504 (r 223), d P "read_power" 513 (r 230), d P "read_primary" 523 (r 237), d P "MOST_DEEP_conditions" 527 (.int 20 526), d P "OPPOSITES" 546 (r 238), d P "CLASSES" 551 (r 239), d P "WORDS_OF_SIGNS" 567 (r 240), d P "WORDS_OF_RELATIONS" 577 (r 241), d P "RELATIONS" 583 (r 242), d P "word_here" 593 (r 250), d P "is_relation_at" 602 (r 257), d P "place_of_word" 610 (r 264), d P "is_predicate_here" 619 (r 271), d P "is_bare_relation_here" 626 (r 278), d P "ConditionReader" 754 (r 372), d P "read_condition" 763 (r 384), d P "word_ahead" 775 (r 391), d P "phrase_words" 782 (r 398), d P "opening_length" 796 (r 405), d P "body_here" 805 (r 412), d P "branches_here" 818 (r 419), d P "ref_here" 825 (r 426), d P "refuse_at" 834 (r 433), d P "is_key_condition" 843 (r 440), d P "table_here" 852 (r 447), d P "read_search_all" 864 (r 454), d P "read_search" 876 (r 461), d P "MOST_OCTET" 880 (.int 255 879), d P "RESERVED" 882 (.str resv 881), d P "is_reserved" 889 (r 468), d P "octets_of_text" 895 (r 473), d P "Reader" 1102 (r 642), d P "Token" 1148 (r 672), d P "_law_pen" 1156 (r 681), d P "_law_draw" 1167 (r 688), d P "_law_pick" 1175 (r 695), d P "_law_words" 1181 (r 700), d P "_law_reader" 1187 (r 705), d P "_law_item" 1194 (r 712), d P "_law_leaf" 1207 (r 719), d P "_law_cond" 1221 (r 726), d P "_law_bracket" 1228 (r 733), d P "_law_right" 1246 (r 740), d P "_law_both" 1253 (r 747), d P "law" 1259 (r 752)].toArray 82), [].toArray⟩
noncomputable def o11 (P : Params) : Obj := tp []
noncomputable def o12 (P : Params) : Obj := fl []
noncomputable def o12_1 (P : Params) : Obj := fl [(jn 1), (jn 0), (r 20), (jn 5), (jn 0), (r 27)]
noncomputable def o12_2 (P : Params) : Obj := fl [(jn 1), (jn 0), (r 20), (jn 5), (jn 0), (r 27), (jn 14), (jn 0), (r 56)]
noncomputable def o12_3 (P : Params) : Obj := fl [(jn 1), (jn 0), (r 20), (jn 5), (jn 0), (r 27), (jn 14), (jn 0), (r 56), (jn 16), (jn 0), (r 68), (jn 20), (jn 0), (r 80), (jn 24), (jn 0), (r 88), (jn 31), (jn 0), (r 95), (jn 33), (jn 0), (r 102), (jn 41), (jn 0), (r 109)]
noncomputable def o12_4 (P : Params) : Obj := fl [(jn 1), (jn 0), (r 20), (jn 5), (jn 0), (r 27), (jn 14), (jn 0), (r 56), (jn 16), (jn 0), (r 68), (jn 20), (jn 0), (r 80), (jn 24), (jn 0), (r 88), (jn 31), (jn 0), (r 95), (jn 33), (jn 0), (r 102), (jn 41), (jn 0), (r 109), (jn 43), (jn 0), (r 116), (jn 45), (jn 0), (r 123), (jn 50), (jn 0), (r 130), (jn 68), (jn 0), (r 138), (jn 81), (jn 0), (r 145), (jn 89), (jn 0), (r 152)]
noncomputable def o12_5 (P : Params) : Obj := fl [(jn 1), (jn 0), (r 20), (jn 5), (jn 0), (r 27), (jn 14), (jn 0), (r 56), (jn 16), (jn 0), (r 68), (jn 20), (jn 0), (r 80), (jn 24), (jn 0), (r 88), (jn 31), (jn 0), (r 95), (jn 33), (jn 0), (r 102), (jn 41), (jn 0), (r 109), (jn 43), (jn 0), (r 116), (jn 45), (jn 0), (r 123), (jn 50), (jn 0), (r 130), (jn 68), (jn 0), (r 138), (jn 81), (jn 0), (r 145), (jn 89), (jn 0), (r 152), (jn 96), (jn 0), (r 159), (jn 106), (jn 0), (r 166), (jn 113), (jn 0), (r 173), (jn 117), (jn 0), (r 180), (jn 128), (jn 0), (r 187), (jn 130), (jn 0), (r 194), (jn 135), (jn 0), (r 201), (jn 143), (jn 0), (r 208), (jn 149), (jn 0), (r 215), (jn 159), (jn 0), (r 222), (jn 164), (jn 0), (r 229), (jn 170), (jn 0), (r 236)]
noncomputable def o12_6 (P : Params) : Obj := fl [(jn 1), (jn 0), (r 20), (jn 5), (jn 0), (r 27), (jn 14), (jn 0), (r 56), (jn 16), (jn 0), (r 68), (jn 20), (jn 0), (r 80), (jn 24), (jn 0), (r 88), (jn 31), (jn 0), (r 95), (jn 33), (jn 0), (r 102), (jn 41), (jn 0), (r 109), (jn 43), (jn 0), (r 116), (jn 45), (jn 0), (r 123), (jn 50), (jn 0), (r 130), (jn 68), (jn 0), (r 138), (jn 81), (jn 0), (r 145), (jn 89), (jn 0), (r 152), (jn 96), (jn 0), (r 159), (jn 106), (jn 0), (r 166), (jn 113), (jn 0), (r 173), (jn 117), (jn 0), (r 180), (jn 128), (jn 0), (r 187), (jn 130), (jn 0), (r 194), (jn 135), (jn 0), (r 201), (jn 143), (jn 0), (r 208), (jn 149), (jn 0), (r 215), (jn 159), (jn 0), (r 222), (jn 164), (jn 0), (r 229), (jn 170), (jn 0), (r 236), (jn 185), (jn 0), (r 249), (jn 188), (jn 0), (r 256), (jn 193), (jn 0), (r 263)]
noncomputable def o12_7 (P : Params) : Obj := fl [(jn 1), (jn 0), (r 20), (jn 5), (jn 0), (r 27), (jn 14), (jn 0), (r 56), (jn 16), (jn 0), (r 68), (jn 20), (jn 0), (r 80), (jn 24), (jn 0), (r 88), (jn 31), (jn 0), (r 95), (jn 33), (jn 0), (r 102), (jn 41), (jn 0), (r 109), (jn 43), (jn 0), (r 116), (jn 45), (jn 0), (r 123), (jn 50), (jn 0), (r 130), (jn 68), (jn 0), (r 138), (jn 81), (jn 0), (r 145), (jn 89), (jn 0), (r 152), (jn 96), (jn 0), (r 159), (jn 106), (jn 0), (r 166), (jn 113), (jn 0), (r 173), (jn 117), (jn 0), (r 180), (jn 128), (jn 0), (r 187), (jn 130), (jn 0), (r 194), (jn 135), (jn 0), (r 201), (jn 143), (jn 0), (r 208), (jn 149), (jn 0), (r 215), (jn 159), (jn 0), (r 222), (jn 164), (jn 0), (r 229), (jn 170), (jn 0), (r 236), (jn 185), (jn 0), (r 249), (jn 188), (jn 0), (r 256), (jn 193), (jn 0), (r 263), (jn 196), (jn 0), (r 270), (jn 200), (jn 0), (r 277)]
noncomputable def o12_8 (P : Params) : Obj := fl [(jn 1), (jn 0), (r 20), (jn 5), (jn 0), (r 27), (jn 14), (jn 0), (r 56), (jn 16), (jn 0), (r 68), (jn 20), (jn 0), (r 80), (jn 24), (jn 0), (r 88), (jn 31), (jn 0), (r 95), (jn 33), (jn 0), (r 102), (jn 41), (jn 0), (r 109), (jn 43), (jn 0), (r 116), (jn 45), (jn 0), (r 123), (jn 50), (jn 0), (r 130), (jn 68), (jn 0), (r 138), (jn 81), (jn 0), (r 145), (jn 89), (jn 0), (r 152), (jn 96), (jn 0), (r 159), (jn 106), (jn 0), (r 166), (jn 113), (jn 0), (r 173), (jn 117), (jn 0), (r 180), (jn 128), (jn 0), (r 187), (jn 130), (jn 0), (r 194), (jn 135), (jn 0), (r 201), (jn 143), (jn 0), (r 208), (jn 149), (jn 0), (r 215), (jn 159), (jn 0), (r 222), (jn 164), (jn 0), (r 229), (jn 170), (jn 0), (r 236), (jn 185), (jn 0), (r 249), (jn 188), (jn 0), (r 256), (jn 193), (jn 0), (r 263), (jn 196), (jn 0), (r 270), (jn 200), (jn 0), (r 277), (jn 202), (jn 0), (r 284)]
noncomputable def o12_9 (P : Params) : Obj := fl [(jn 1), (jn 0), (r 20), (jn 5), (jn 0), (r 27), (jn 14), (jn 0), (r 56), (jn 16), (jn 0), (r 68), (jn 20), (jn 0), (r 80), (jn 24), (jn 0), (r 88), (jn 31), (jn 0), (r 95), (jn 33), (jn 0), (r 102), (jn 41), (jn 0), (r 109), (jn 43), (jn 0), (r 116), (jn 45), (jn 0), (r 123), (jn 50), (jn 0), (r 130), (jn 68), (jn 0), (r 138), (jn 81), (jn 0), (r 145), (jn 89), (jn 0), (r 152), (jn 96), (jn 0), (r 159), (jn 106), (jn 0), (r 166), (jn 113), (jn 0), (r 173), (jn 117), (jn 0), (r 180), (jn 128), (jn 0), (r 187), (jn 130), (jn 0), (r 194), (jn 135), (jn 0), (r 201), (jn 143), (jn 0), (r 208), (jn 149), (jn 0), (r 215), (jn 159), (jn 0), (r 222), (jn 164), (jn 0), (r 229), (jn 170), (jn 0), (r 236), (jn 185), (jn 0), (r 249), (jn 188), (jn 0), (r 256), (jn 193), (jn 0), (r 263), (jn 196), (jn 0), (r 270), (jn 200), (jn 0), (r 277), (jn 202), (jn 0), (r 284), (jn 305), (jn 0), (r 383), (jn 310), (jn 0), (r 390), (jn 313), (jn 0), (r 397), (jn 323), (jn 0), (r 404), (jn 343), (jn 0), (r 411), (jn 348), (jn 0), (r 418), (jn 357), (jn 0), (r 425), (jn 361), (jn 0), (r 432), (jn 365), (jn 0), (r 439), (jn 369), (jn 0), (r 446), (jn 375), (jn 0), (r 453)]
noncomputable def o12_10 (P : Params) : Obj := fl [(jn 1), (jn 0), (r 20), (jn 5), (jn 0), (r 27), (jn 14), (jn 0), (r 56), (jn 16), (jn 0), (r 68), (jn 20), (jn 0), (r 80), (jn 24), (jn 0), (r 88), (jn 31), (jn 0), (r 95), (jn 33), (jn 0), (r 102), (jn 41), (jn 0), (r 109), (jn 43), (jn 0), (r 116), (jn 45), (jn 0), (r 123), (jn 50), (jn 0), (r 130), (jn 68), (jn 0), (r 138), (jn 81), (jn 0), (r 145), (jn 89), (jn 0), (r 152), (jn 96), (jn 0), (r 159), (jn 106), (jn 0), (r 166), (jn 113), (jn 0), (r 173), (jn 117), (jn 0), (r 180), (jn 128), (jn 0), (r 187), (jn 130), (jn 0), (r 194), (jn 135), (jn 0), (r 201), (jn 143), (jn 0), (r 208), (jn 149), (jn 0), (r 215), (jn 159), (jn 0), (r 222), (jn 164), (jn 0), (r 229), (jn 170), (jn 0), (r 236), (jn 185), (jn 0), (r 249), (jn 188), (jn 0), (r 256), (jn 193), (jn 0), (r 263), (jn 196), (jn 0), (r 270), (jn 200), (jn 0), (r 277), (jn 202), (jn 0), (r 284), (jn 305), (jn 0), (r 383), (jn 310), (jn 0), (r 390), (jn 313), (jn 0), (r 397), (jn 323), (jn 0), (r 404), (jn 343), (jn 0), (r 411), (jn 348), (jn 0), (r 418), (jn 357), (jn 0), (r 425), (jn 361), (jn 0), (r 432), (jn 365), (jn 0), (r 439), (jn 369), (jn 0), (r 446), (jn 375), (jn 0), (r 453), (jn 386), (jn 0), (r 460), (jn 402), (jn 0), (r 467), (jn 404), (jn 0), (r 472)]
noncomputable def o12_11 (P : Params) : Obj := fl [(jn 1), (jn 0), (r 20), (jn 5), (jn 0), (r 27), (jn 14), (jn 0), (r 56), (jn 16), (jn 0), (r 68), (jn 20), (jn 0), (r 80), (jn 24), (jn 0), (r 88), (jn 31), (jn 0), (r 95), (jn 33), (jn 0), (r 102), (jn 41), (jn 0), (r 109), (jn 43), (jn 0), (r 116), (jn 45), (jn 0), (r 123), (jn 50), (jn 0), (r 130), (jn 68), (jn 0), (r 138), (jn 81), (jn 0), (r 145), (jn 89), (jn 0), (r 152), (jn 96), (jn 0), (r 159), (jn 106), (jn 0), (r 166), (jn 113), (jn 0), (r 173), (jn 117), (jn 0), (r 180), (jn 128), (jn 0), (r 187), (jn 130), (jn 0), (r 194), (jn 135), (jn 0), (r 201), (jn 143), (jn 0), (r 208), (jn 149), (jn 0), (r 215), (jn 159), (jn 0), (r 222), (jn 164), (jn 0), (r 229), (jn 170), (jn 0), (r 236), (jn 185), (jn 0), (r 249), (jn 188), (jn 0), (r 256), (jn 193), (jn 0), (r 263), (jn 196), (jn 0), (r 270), (jn 200), (jn 0), (r 277), (jn 202), (jn 0), (r 284), (jn 305), (jn 0), (r 383), (jn 310), (jn 0), (r 390), (jn 313), (jn 0), (r 397), (jn 323), (jn 0), (r 404), (jn 343), (jn 0), (r 411), (jn 348), (jn 0), (r 418), (jn 357), (jn 0), (r 425), (jn 361), (jn 0), (r 432), (jn 365), (jn 0), (r 439), (jn 369), (jn 0), (r 446), (jn 375), (jn 0), (r 453), (jn 386), (jn 0), (r 460), (jn 402), (jn 0), (r 467), (jn 404), (jn 0), (r 472), (jn 409), (jn 0), (r 479)]
noncomputable def o12_12 (P : Params) : Obj := fl [(jn 1), (jn 0), (r 20), (jn 5), (jn 0), (r 27), (jn 14), (jn 0), (r 56), (jn 16), (jn 0), (r 68), (jn 20), (jn 0), (r 80), (jn 24), (jn 0), (r 88), (jn 31), (jn 0), (r 95), (jn 33), (jn 0), (r 102), (jn 41), (jn 0), (r 109), (jn 43), (jn 0), (r 116), (jn 45), (jn 0), (r 123), (jn 50), (jn 0), (r 130), (jn 68), (jn 0), (r 138), (jn 81), (jn 0), (r 145), (jn 89), (jn 0), (r 152), (jn 96), (jn 0), (r 159), (jn 106), (jn 0), (r 166), (jn 113), (jn 0), (r 173), (jn 117), (jn 0), (r 180), (jn 128), (jn 0), (r 187), (jn 130), (jn 0), (r 194), (jn 135), (jn 0), (r 201), (jn 143), (jn 0), (r 208), (jn 149), (jn 0), (r 215), (jn 159), (jn 0), (r 222), (jn 164), (jn 0), (r 229), (jn 170), (jn 0), (r 236), (jn 185), (jn 0), (r 249), (jn 188), (jn 0), (r 256), (jn 193), (jn 0), (r 263), (jn 196), (jn 0), (r 270), (jn 200), (jn 0), (r 277), (jn 202), (jn 0), (r 284), (jn 305), (jn 0), (r 383), (jn 310), (jn 0), (r 390), (jn 313), (jn 0), (r 397), (jn 323), (jn 0), (r 404), (jn 343), (jn 0), (r 411), (jn 348), (jn 0), (r 418), (jn 357), (jn 0), (r 425), (jn 361), (jn 0), (r 432), (jn 365), (jn 0), (r 439), (jn 369), (jn 0), (r 446), (jn 375), (jn 0), (r 453), (jn 386), (jn 0), (r 460), (jn 402), (jn 0), (r 467), (jn 404), (jn 0), (r 472), (jn 409), (jn 0), (r 479), (jn 533), (jn 0), (r 652), (jn 544), (jn 0), (r 680), (jn 547), (jn 0), (r 687), (jn 556), (jn 0), (r 694), (jn 558), (jn 0), (r 699)]
noncomputable def o12_13 (P : Params) : Obj := fl [(jn 1), (jn 0), (r 20), (jn 5), (jn 0), (r 27), (jn 14), (jn 0), (r 56), (jn 16), (jn 0), (r 68), (jn 20), (jn 0), (r 80), (jn 24), (jn 0), (r 88), (jn 31), (jn 0), (r 95), (jn 33), (jn 0), (r 102), (jn 41), (jn 0), (r 109), (jn 43), (jn 0), (r 116), (jn 45), (jn 0), (r 123), (jn 50), (jn 0), (r 130), (jn 68), (jn 0), (r 138), (jn 81), (jn 0), (r 145), (jn 89), (jn 0), (r 152), (jn 96), (jn 0), (r 159), (jn 106), (jn 0), (r 166), (jn 113), (jn 0), (r 173), (jn 117), (jn 0), (r 180), (jn 128), (jn 0), (r 187), (jn 130), (jn 0), (r 194), (jn 135), (jn 0), (r 201), (jn 143), (jn 0), (r 208), (jn 149), (jn 0), (r 215), (jn 159), (jn 0), (r 222), (jn 164), (jn 0), (r 229), (jn 170), (jn 0), (r 236), (jn 185), (jn 0), (r 249), (jn 188), (jn 0), (r 256), (jn 193), (jn 0), (r 263), (jn 196), (jn 0), (r 270), (jn 200), (jn 0), (r 277), (jn 202), (jn 0), (r 284), (jn 305), (jn 0), (r 383), (jn 310), (jn 0), (r 390), (jn 313), (jn 0), (r 397), (jn 323), (jn 0), (r 404), (jn 343), (jn 0), (r 411), (jn 348), (jn 0), (r 418), (jn 357), (jn 0), (r 425), (jn 361), (jn 0), (r 432), (jn 365), (jn 0), (r 439), (jn 369), (jn 0), (r 446), (jn 375), (jn 0), (r 453), (jn 386), (jn 0), (r 460), (jn 402), (jn 0), (r 467), (jn 404), (jn 0), (r 472), (jn 409), (jn 0), (r 479), (jn 533), (jn 0), (r 652), (jn 544), (jn 0), (r 680), (jn 547), (jn 0), (r 687), (jn 556), (jn 0), (r 694), (jn 558), (jn 0), (r 699), (jn 560), (jn 0), (r 704), (jn 562), (jn 0), (r 711), (jn 564), (jn 0), (r 718), (jn 581), (jn 0), (r 725), (jn 592), (jn 0), (r 732), (jn 594), (jn 0), (r 739), (jn 607), (jn 0), (r 746), (jn 609), (jn 0), (r 751)]
noncomputable def o13 (P : Params) : Obj := cd [(v "<module>" 182), (v "<module>" 183), (vc 184), (jn 1), (jn 0), (jn 0), (jn 0), (jn 0), (r 11), (.bool false), (jn 181), (r 12), nn, nn, nn, nn, (jn 185), (jn 1), (vc 186)]
noncomputable def o14 (P : Params) : Obj := ⟨(.type "frame"), none, .plain, [(some (r 13)), (some (r 3)), (some (r 3)), none, (some (v "__main__" 164)), none, (some (r 0))].toArray⟩
noncomputable def o15 (P : Params) : Obj := tp []
noncomputable def o16 (P : Params) : Obj := fl []
noncomputable def o17 (P : Params) : Obj := tp [(v "k" 190)]
noncomputable def o18 (P : Params) : Obj := tp []
noncomputable def o19 (P : Params) : Obj := ⟨nn, none, (.func (fp (st 0) (z "_wall"))), [].toArray⟩
noncomputable def o20 (P : Params) : Obj := cd [(v "_wall" 187), (v "_wall" 188), (vc 189), (jn 1), (jn 1), (jn 0), (jn 0), (jn 3), (r 15), (.bool true), (jn 181), (r 16), nn, (r 17), (r 18), (r 19), (jn 191), (jn 1), (vc 192)]
noncomputable def o21 (P : Params) : Obj := fo (fn (st 0) (z "_wall") nn (v "__main__" 164) (r 20))
noncomputable def o22 (P : Params) : Obj := tp [(.type "Exception")]
noncomputable def o23 (P : Params) : Obj := ⟨(.type "builtin_function_or_method"), none, (.fields [(.builtin "type.__prepare__"), (.type "type")].toArray), [].toArray⟩
noncomputable def o24 (P : Params) : Obj := ⟨(.type "dict"), none, (.dict [d P "__module__" 203 (v "ledgerspeak.errors" 194), d P "__qualname__" 205 (v "LedgerError" 204), d P "__firstlineno__" 207 (.int 5 206), d P "__init__" 218 (r 37), d P "told" 225 (r 44), d P "__static_attributes__" 228 (r 45)].toArray 6), [].toArray⟩
noncomputable def o25 (P : Params) : Obj := tp []
noncomputable def o26 (P : Params) : Obj := fl [(jn 7), (jn 4), (r 36), (jn 12), (jn 4), (r 43)]
noncomputable def o27 (P : Params) : Obj := cd [(v "LedgerError" 198), (v "LedgerError" 199), (vc 200), (jn 5), (jn 0), (jn 0), (jn 0), (jn 0), (r 25), (.bool false), (jn 181), (r 26), nn, nn, nn, nn, (jn 201), (jn 5), (vc 202)]
noncomputable def o28 (P : Params) : Obj := ⟨(.type "frame"), none, .plain, [(some (r 27)), (some (r 3)), (some (r 24)), none, (some (v "ledgerspeak.errors" 194)), none, (some (r 0))].toArray⟩
noncomputable def o29 (P : Params) : Obj := tp [(.int 0 208), (.int 0 209)]
noncomputable def o30 (P : Params) : Obj := tp [(r 29)]
noncomputable def o31 (P : Params) : Obj := tp []
noncomputable def o32 (P : Params) : Obj := fl []
noncomputable def o33 (P : Params) : Obj := tp [(v "self" 213), (v "what" 214), (v "at" 215)]
noncomputable def o34 (P : Params) : Obj := tp []
noncomputable def o35 (P : Params) : Obj := ⟨nn, none, (.func (fp (me 2 0) (z "LedgerError.__init__"))), [].toArray⟩
noncomputable def o36 (P : Params) : Obj := cd [(v "__init__" 210), (v "LedgerError.__init__" 211), (vc 212), (jn 7), (jn 3), (jn 0), (jn 0), (jn 3), (r 31), (.bool true), (jn 181), (r 32), nn, (r 33), (r 34), (r 35), (jn 216), (jn 7), (vc 217)]
noncomputable def o37 (P : Params) : Obj := fo (fn (me 2 0) (z "LedgerError.__init__") (r 30) (v "ledgerspeak.errors" 194) (r 36))
noncomputable def o38 (P : Params) : Obj := tp []
noncomputable def o39 (P : Params) : Obj := fl []
noncomputable def o40 (P : Params) : Obj := tp [(v "self" 222)]
noncomputable def o41 (P : Params) : Obj := tp []
noncomputable def o42 (P : Params) : Obj := ⟨nn, none, (.func (fp (me 2 1) (z "LedgerError.told"))), [].toArray⟩
noncomputable def o43 (P : Params) : Obj := cd [(v "told" 219), (v "LedgerError.told" 220), (vc 221), (jn 12), (jn 1), (jn 0), (jn 0), (jn 3), (r 38), (.bool true), (jn 181), (r 39), nn, (r 40), (r 41), (r 42), (jn 223), (jn 12), (vc 224)]
noncomputable def o44 (P : Params) : Obj := fo (fn (me 2 1) (z "LedgerError.told") nn (v "ledgerspeak.errors" 194) (r 43))
noncomputable def o45 (P : Params) : Obj := tp [(v "at" 226), (v "what" 227)]
noncomputable def o46 (P : Params) : Obj := ⟨(.type "dict"), none, (.dict [d P "__module__" 203 (v "ledgerspeak.errors" 194), d P "__firstlineno__" 207 (.int 5 206), d P "__init__" 218 (r 37), d P "told" 225 (r 44), d P "__static_attributes__" 228 (r 45), d P "__weakref__" 230 (r 48), d P "__doc__" 231 nn].toArray 3), [].toArray⟩
noncomputable def o47 (P : Params) : Obj := ⟨(.type "type"), none, (.cls { name := z "LedgerError", bases := [(.type "Exception")], mro := [(r 47), (.type "Exception"), (.type "BaseException"), (.type "object")], ns := 46, qualname := z "LedgerError", hasDict := true, slotNames := [], subclasses := [], abstract := false, collection := none, hasDel := false }), [(some (r 22)), none, (some (v "LedgerError" 196)), (some (v "LedgerError" 204)), (some (.builtin "Exception.__new__")), (some (.bool true))].toArray⟩
noncomputable def o47_1 (P : Params) : Obj := ⟨(.type "type"), none, (.cls { name := z "LedgerError", bases := [(.type "Exception")], mro := [(r 47), (.type "Exception"), (.type "BaseException"), (.type "object")], ns := 46, qualname := z "LedgerError", hasDict := true, slotNames := [], subclasses := [(r 60)], abstract := false, collection := none, hasDel := false }), [(some (r 22)), none, (some (v "LedgerError" 196)), (some (v "LedgerError" 204)), (some (.builtin "Exception.__new__")), (some (.bool true))].toArray⟩
noncomputable def o47_2 (P : Params) : Obj := ⟨(.type "type"), none, (.cls { name := z "LedgerError", bases := [(.type "Exception")], mro := [(r 47), (.type "Exception"), (.type "BaseException"), (.type "object")], ns := 46, qualname := z "LedgerError", hasDict := true, slotNames := [], subclasses := [(r 60), (r 72)], abstract := false, collection := none, hasDel := false }), [(some (r 22)), none, (some (v "LedgerError" 196)), (some (v "LedgerError" 204)), (some (.builtin "Exception.__new__")), (some (.bool true))].toArray⟩
noncomputable def o48 (P : Params) : Obj := ⟨(.type "getset_descriptor"), none, (.fields [(v "__weakref__" 229), (r 47), (.builtin "ExceptionGroup.__weakref__"), nn].toArray), [].toArray⟩
noncomputable def o49 (P : Params) : Obj := ⟨(.type "super"), none, (.fields [(r 47), (r 47), (r 47)].toArray), [].toArray⟩
noncomputable def o50 (P : Params) : Obj := ⟨(.type "builtin_function_or_method"), none, (.fields [(.builtin "object.__init_subclass__"), (r 47)].toArray), [].toArray⟩
noncomputable def o51 (P : Params) : Obj := tp [(r 47)]
noncomputable def o52 (P : Params) : Obj := ⟨(.type "builtin_function_or_method"), none, (.fields [(.builtin "type.__prepare__"), (.type "type")].toArray), [].toArray⟩
noncomputable def o53 (P : Params) : Obj := ⟨(.type "dict"), none, (.dict [d P "__module__" 243 (v "ledgerspeak.errors" 194), d P "__qualname__" 245 (v "TokenFault" 244), d P "__firstlineno__" 247 (.int 14 246), d P "__static_attributes__" 248 (r 58)].toArray 4), [].toArray⟩
noncomputable def o54 (P : Params) : Obj := tp []
noncomputable def o55 (P : Params) : Obj := fl []
noncomputable def o56 (P : Params) : Obj := cd [(v "TokenFault" 238), (v "TokenFault" 239), (vc 240), (jn 14), (jn 0), (jn 0), (jn 0), (jn 0), (r 54), (.bool false), (jn 181), (r 55), nn, nn, nn, nn, (jn 241), (jn 14), (vc 242)]
noncomputable def o57 (P : Params) : Obj := ⟨(.type "frame"), none, .plain, [(some (r 56)), (some (r 3)), (some (r 53)), none, (some (v "ledgerspeak.errors" 194)), none, (some (r 0))].toArray⟩
noncomputable def o58 (P : Params) : Obj := tp []
noncomputable def o59 (P : Params) : Obj := ⟨(.type "dict"), none, (.dict [d P "__module__" 243 (v "ledgerspeak.errors" 194), d P "__firstlineno__" 247 (.int 14 246), d P "__static_attributes__" 248 (r 58), d P "__doc__" 249 nn].toArray 2), [].toArray⟩
noncomputable def o60 (P : Params) : Obj := ⟨(.type "type"), none, (.cls { name := z "TokenFault", bases := [(r 47)], mro := [(r 60), (r 47), (.type "Exception"), (.type "BaseException"), (.type "object")], ns := 59, qualname := z "TokenFault", hasDict := true, slotNames := [], subclasses := [], abstract := false, collection := none, hasDel := false }), [(some (r 51)), none, (some (v "TokenFault" 236)), (some (v "TokenFault" 244)), (some (.builtin "Exception.__new__")), (some (.bool true))].toArray⟩
noncomputable def o61 (P : Params) : Obj := ⟨(.type "super"), none, (.fields [(r 60), (r 60), (r 60)].toArray), [].toArray⟩
noncomputable def o62 (P : Params) : Obj := ⟨(.type "builtin_function_or_method"), none, (.fields [(.builtin "object.__init_subclass__"), (r 60)].toArray), [].toArray⟩
noncomputable def o63 (P : Params) : Obj := tp [(r 47)]
noncomputable def o64 (P : Params) : Obj := ⟨(.type "builtin_function_or_method"), none, (.fields [(.builtin "type.__prepare__"), (.type "type")].toArray), [].toArray⟩
noncomputable def o65 (P : Params) : Obj := ⟨(.type "dict"), none, (.dict [d P "__module__" 259 (v "ledgerspeak.errors" 194), d P "__qualname__" 261 (v "GrammarFault" 260), d P "__firstlineno__" 263 (.int 16 262), d P "__static_attributes__" 264 (r 70)].toArray 4), [].toArray⟩
noncomputable def o66 (P : Params) : Obj := tp []
noncomputable def o67 (P : Params) : Obj := fl []
noncomputable def o68 (P : Params) : Obj := cd [(v "GrammarFault" 254), (v "GrammarFault" 255), (vc 256), (jn 16), (jn 0), (jn 0), (jn 0), (jn 0), (r 66), (.bool false), (jn 181), (r 67), nn, nn, nn, nn, (jn 257), (jn 16), (vc 258)]
noncomputable def o69 (P : Params) : Obj := ⟨(.type "frame"), none, .plain, [(some (r 68)), (some (r 3)), (some (r 65)), none, (some (v "ledgerspeak.errors" 194)), none, (some (r 0))].toArray⟩
noncomputable def o70 (P : Params) : Obj := tp []
noncomputable def o71 (P : Params) : Obj := ⟨(.type "dict"), none, (.dict [d P "__module__" 259 (v "ledgerspeak.errors" 194), d P "__firstlineno__" 263 (.int 16 262), d P "__static_attributes__" 264 (r 70), d P "__doc__" 265 nn].toArray 2), [].toArray⟩
noncomputable def o72 (P : Params) : Obj := ⟨(.type "type"), none, (.cls { name := z "GrammarFault", bases := [(r 47)], mro := [(r 72), (r 47), (.type "Exception"), (.type "BaseException"), (.type "object")], ns := 71, qualname := z "GrammarFault", hasDict := true, slotNames := [], subclasses := [], abstract := false, collection := none, hasDel := false }), [(some (r 63)), none, (some (v "GrammarFault" 252)), (some (v "GrammarFault" 260)), (some (.builtin "Exception.__new__")), (some (.bool true))].toArray⟩
noncomputable def o73 (P : Params) : Obj := ⟨(.type "super"), none, (.fields [(r 72), (r 72), (r 72)].toArray), [].toArray⟩
noncomputable def o74 (P : Params) : Obj := ⟨(.type "builtin_function_or_method"), none, (.fields [(.builtin "object.__init_subclass__"), (r 72)].toArray), [].toArray⟩
noncomputable def o75 (P : Params) : Obj := tp []
noncomputable def o76 (P : Params) : Obj := fl []
noncomputable def o77 (P : Params) : Obj := tp [(v "top" 275), (v "bottom" 276)]
noncomputable def o78 (P : Params) : Obj := tp []
noncomputable def o79 (P : Params) : Obj := ⟨nn, none, (.func (fp (st 7) (z "cut_quotient"))), [].toArray⟩
noncomputable def o80 (P : Params) : Obj := cd [(v "cut_quotient" 272), (v "cut_quotient" 273), (vc 274), (jn 20), (jn 2), (jn 0), (jn 0), (jn 3), (r 75), (.bool true), (jn 181), (r 76), nn, (r 77), (r 78), (r 79), (jn 277), (jn 20), (vc 278)]
noncomputable def o81 (P : Params) : Obj := fo (fn (st 7) (z "cut_quotient") nn (v "ledgerspeak.decimals" 268) (r 80))
noncomputable def o82 (P : Params) : Obj := tp [(.int 0 280)]
noncomputable def o83 (P : Params) : Obj := tp []
noncomputable def o84 (P : Params) : Obj := fl []
noncomputable def o85 (P : Params) : Obj := tp [(v "units" 284), (v "scale" 285)]
noncomputable def o86 (P : Params) : Obj := tp []
noncomputable def o87 (P : Params) : Obj := ⟨nn, none, (.func (fp (st 8) (z "decimal"))), [].toArray⟩
noncomputable def o88 (P : Params) : Obj := cd [(v "decimal" 281), (v "decimal" 282), (vc 283), (jn 24), (jn 2), (jn 0), (jn 0), (jn 3), (r 83), (.bool true), (jn 181), (r 84), nn, (r 85), (r 86), (r 87), (jn 286), (jn 24), (vc 287)]
noncomputable def o89 (P : Params) : Obj := fo (fn (st 8) (z "decimal") (r 82) (v "ledgerspeak.decimals" 268) (r 88))
noncomputable def o90 (P : Params) : Obj := tp []
noncomputable def o91 (P : Params) : Obj := fl []
noncomputable def o92 (P : Params) : Obj := tp [(v "a" 292)]
noncomputable def o93 (P : Params) : Obj := tp []
noncomputable def o94 (P : Params) : Obj := ⟨nn, none, (.func (fp (st 9) (z "negated"))), [].toArray⟩
noncomputable def o95 (P : Params) : Obj := cd [(v "negated" 289), (v "negated" 290), (vc 291), (jn 31), (jn 1), (jn 0), (jn 0), (jn 3), (r 90), (.bool true), (jn 181), (r 91), nn, (r 92), (r 93), (r 94), (jn 293), (jn 31), (vc 294)]
noncomputable def o96 (P : Params) : Obj := fo (fn (st 9) (z "negated") nn (v "ledgerspeak.decimals" 268) (r 95))
noncomputable def o97 (P : Params) : Obj := tp []
noncomputable def o98 (P : Params) : Obj := fl []
noncomputable def o99 (P : Params) : Obj := tp [(v "a" 299), (v "scale" 300), (v "is_rounded" 301), (v "size" 302), (v "half" 303)]
noncomputable def o100 (P : Params) : Obj := tp []
noncomputable def o101 (P : Params) : Obj := ⟨nn, none, (.func (fp (st 10) (z "units_at"))), [].toArray⟩
noncomputable def o102 (P : Params) : Obj := cd [(v "units_at" 296), (v "units_at" 297), (vc 298), (jn 33), (jn 3), (jn 0), (jn 0), (jn 3), (r 97), (.bool true), (jn 181), (r 98), nn, (r 99), (r 100), (r 101), (jn 304), (jn 33), (vc 305)]
noncomputable def o103 (P : Params) : Obj := fo (fn (st 10) (z "units_at") nn (v "ledgerspeak.decimals" 268) (r 102))
noncomputable def o104 (P : Params) : Obj := tp []
noncomputable def o105 (P : Params) : Obj := fl []
noncomputable def o106 (P : Params) : Obj := tp [(v "a" 310)]
noncomputable def o107 (P : Params) : Obj := tp []
noncomputable def o108 (P : Params) : Obj := ⟨nn, none, (.func (fp (st 11) (z "is_whole"))), [].toArray⟩
noncomputable def o109 (P : Params) : Obj := cd [(v "is_whole" 307), (v "is_whole" 308), (vc 309), (jn 41), (jn 1), (jn 0), (jn 0), (jn 3), (r 104), (.bool true), (jn 181), (r 105), nn, (r 106), (r 107), (r 108), (jn 311), (jn 41), (vc 312)]
noncomputable def o110 (P : Params) : Obj := fo (fn (st 11) (z "is_whole") nn (v "ledgerspeak.decimals" 268) (r 109))
noncomputable def o111 (P : Params) : Obj := tp []
noncomputable def o112 (P : Params) : Obj := fl []
noncomputable def o113 (P : Params) : Obj := tp [(v "a" 317)]
noncomputable def o114 (P : Params) : Obj := tp []
noncomputable def o115 (P : Params) : Obj := ⟨nn, none, (.func (fp (st 12) (z "whole_of"))), [].toArray⟩
noncomputable def o116 (P : Params) : Obj := cd [(v "whole_of" 314), (v "whole_of" 315), (vc 316), (jn 43), (jn 1), (jn 0), (jn 0), (jn 3), (r 111), (.bool true), (jn 181), (r 112), nn, (r 113), (r 114), (r 115), (jn 318), (jn 43), (vc 319)]
noncomputable def o117 (P : Params) : Obj := fo (fn (st 12) (z "whole_of") nn (v "ledgerspeak.decimals" 268) (r 116))
noncomputable def o118 (P : Params) : Obj := tp []
noncomputable def o119 (P : Params) : Obj := fl []
noncomputable def o120 (P : Params) : Obj := tp [(v "figures" 324), (v "number" 325), (v "figure" 326)]
noncomputable def o121 (P : Params) : Obj := tp []
noncomputable def o122 (P : Params) : Obj := ⟨nn, none, (.func (fp (st 13) (z "worth_of"))), [].toArray⟩
noncomputable def o123 (P : Params) : Obj := cd [(v "worth_of" 321), (v "worth_of" 322), (vc 323), (jn 45), (jn 1), (jn 0), (jn 0), (jn 3), (r 118), (.bool true), (jn 181), (r 119), nn, (r 120), (r 121), (r 122), (jn 327), (jn 45), (vc 328)]
noncomputable def o124 (P : Params) : Obj := fo (fn (st 13) (z "worth_of") nn (v "ledgerspeak.decimals" 268) (r 123))
noncomputable def o125 (P : Params) : Obj := tp []
noncomputable def o126 (P : Params) : Obj := fl []
noncomputable def o127 (P : Params) : Obj := tp [(v "text" 333), (v "begin" 334), (v "ahead" 335), (v "behind" 336), (v "point" 337), (v "at" 338), (v "units" 339)]
noncomputable def o128 (P : Params) : Obj := tp []
noncomputable def o129 (P : Params) : Obj := ⟨nn, none, (.func (fp (st 14) (z "read_decimal"))), [].toArray⟩
noncomputable def o130 (P : Params) : Obj := cd [(v "read_decimal" 330), (v "read_decimal" 331), (vc 332), (jn 50), (jn 1), (jn 0), (jn 0), (jn 3), (r 125), (.bool true), (jn 181), (r 126), nn, (r 127), (r 128), (r 129), (jn 340), (jn 50), (vc 341)]
noncomputable def o131 (P : Params) : Obj := fo (fn (st 14) (z "read_decimal") nn (v "ledgerspeak.decimals" 268) (r 130))
noncomputable def o132 (P : Params) : Obj := ⟨(.type "dict"), none, (.dict [d P "ZERO" 347 (v "ZERO" 348), d P "ZEROS" 349 (v "ZERO" 350), d P "ZEROES" 351 (v "ZERO" 352), d P "SPACE" 353 (v "SPACE" 354), d P "SPACES" 355 (v "SPACE" 356), d P "HIGH-VALUE" 357 (v "HIGH" 358), d P "HIGH-VALUES" 359 (v "HIGH" 360), d P "LOW-VALUE" 361 (v "LOW" 362), d P "LOW-VALUES" 363 (v "LOW" 364), d P "QUOTE" 365 (v "QUOTE" 366), d P "QUOTES" 367 (v "QUOTE" 368)].toArray 11), [].toArray⟩
noncomputable def o133 (P : Params) : Obj := tp []
noncomputable def o134 (P : Params) : Obj := fl []
noncomputable def o135 (P : Params) : Obj := tp [(v "reader" 384), (v "depth" 385), (v "ahead" 386)]
noncomputable def o136 (P : Params) : Obj := tp []
noncomputable def o137 (P : Params) : Obj := ⟨nn, none, (.func (fp (st 18) (z "is_part_next"))), [].toArray⟩
noncomputable def o138 (P : Params) : Obj := cd [(v "is_part_next" 381), (v "is_part_next" 382), (vc 383), (jn 68), (jn 1), (jn 0), (jn 0), (jn 3), (r 133), (.bool true), (jn 181), (r 134), nn, (r 135), (r 136), (r 137), (jn 387), (jn 68), (vc 388)]
noncomputable def o139 (P : Params) : Obj := fo (fn (st 18) (z "is_part_next") nn (v "ledgerspeak.references" 343) (r 138))
noncomputable def o140 (P : Params) : Obj := tp []
noncomputable def o141 (P : Params) : Obj := fl []
noncomputable def o142 (P : Params) : Obj := tp [(v "reader" 393), (v "read_expr" 394), (v "found" 395)]
noncomputable def o143 (P : Params) : Obj := tp []
noncomputable def o144 (P : Params) : Obj := ⟨nn, none, (.func (fp (st 19) (z "read_subscripts"))), [].toArray⟩
noncomputable def o145 (P : Params) : Obj := cd [(v "read_subscripts" 390), (v "read_subscripts" 391), (vc 392), (jn 81), (jn 2), (jn 0), (jn 0), (jn 3), (r 140), (.bool true), (jn 181), (r 141), nn, (r 142), (r 143), (r 144), (jn 396), (jn 81), (vc 397)]
noncomputable def o146 (P : Params) : Obj := fo (fn (st 19) (z "read_subscripts") nn (v "ledgerspeak.references" 343) (r 145))
noncomputable def o147 (P : Params) : Obj := tp []
noncomputable def o148 (P : Params) : Obj := fl []
noncomputable def o149 (P : Params) : Obj := tp [(v "reader" 402), (v "read_expr" 403), (v "begin" 404), (v "length" 405)]
noncomputable def o150 (P : Params) : Obj := tp []
noncomputable def o151 (P : Params) : Obj := ⟨nn, none, (.func (fp (st 20) (z "read_part"))), [].toArray⟩
noncomputable def o152 (P : Params) : Obj := cd [(v "read_part" 399), (v "read_part" 400), (vc 401), (jn 89), (jn 2), (jn 0), (jn 0), (jn 3), (r 147), (.bool true), (jn 181), (r 148), nn, (r 149), (r 150), (r 151), (jn 406), (jn 89), (vc 407)]
noncomputable def o153 (P : Params) : Obj := fo (fn (st 20) (z "read_part") nn (v "ledgerspeak.references" 343) (r 152))
noncomputable def o154 (P : Params) : Obj := tp []
noncomputable def o155 (P : Params) : Obj := fl []
noncomputable def o156 (P : Params) : Obj := tp [(v "reader" 412), (v "read_expr" 413), (v "name" 414), (v "qualifiers" 415), (v "subscripts" 416), (v "part" 417)]
noncomputable def o157 (P : Params) : Obj := tp []
noncomputable def o158 (P : Params) : Obj := ⟨nn, none, (.func (fp (st 21) (z "read_ref"))), [].toArray⟩
noncomputable def o159 (P : Params) : Obj := cd [(v "read_ref" 409), (v "read_ref" 410), (vc 411), (jn 96), (jn 2), (jn 0), (jn 0), (jn 3), (r 154), (.bool true), (jn 181), (r 155), nn, (r 156), (r 157), (r 158), (jn 418), (jn 96), (vc 419)]
noncomputable def o160 (P : Params) : Obj := fo (fn (st 21) (z "read_ref") nn (v "ledgerspeak.references" 343) (r 159))
noncomputable def o161 (P : Params) : Obj := tp []
noncomputable def o162 (P : Params) : Obj := fl []
noncomputable def o163 (P : Params) : Obj := tp [(v "reader" 424), (v "figure" 425)]
noncomputable def o164 (P : Params) : Obj := tp []
noncomputable def o165 (P : Params) : Obj := ⟨nn, none, (.func (fp (st 22) (z "read_all"))), [].toArray⟩
noncomputable def o166 (P : Params) : Obj := cd [(v "read_all" 421), (v "read_all" 422), (vc 423), (jn 106), (jn 1), (jn 0), (jn 0), (jn 3), (r 161), (.bool true), (jn 181), (r 162), nn, (r 163), (r 164), (r 165), (jn 426), (jn 106), (vc 427)]
noncomputable def o167 (P : Params) : Obj := fo (fn (st 22) (z "read_all") nn (v "ledgerspeak.references" 343) (r 166))
noncomputable def o168 (P : Params) : Obj := tp []
noncomputable def o169 (P : Params) : Obj := fl []
noncomputable def o170 (P : Params) : Obj := tp [(v "reader" 432)]
noncomputable def o171 (P : Params) : Obj := tp []
noncomputable def o172 (P : Params) : Obj := ⟨nn, none, (.func (fp (st 23) (z "read_figure"))), [].toArray⟩
noncomputable def o173 (P : Params) : Obj := cd [(v "read_figure" 429), (v "read_figure" 430), (vc 431), (jn 113), (jn 1), (jn 0), (jn 0), (jn 3), (r 168), (.bool true), (jn 181), (r 169), nn, (r 170), (r 171), (r 172), (jn 433), (jn 113), (vc 434)]
noncomputable def o174 (P : Params) : Obj := fo (fn (st 23) (z "read_figure") nn (v "ledgerspeak.references" 343) (r 173))
noncomputable def o175 (P : Params) : Obj := tp []
noncomputable def o176 (P : Params) : Obj := fl []
noncomputable def o177 (P : Params) : Obj := tp [(v "reader" 439), (v "read_expr" 440), (v "figure" 441)]
noncomputable def o178 (P : Params) : Obj := tp []
noncomputable def o179 (P : Params) : Obj := ⟨nn, none, (.func (fp (st 24) (z "read_operand"))), [].toArray⟩
noncomputable def o180 (P : Params) : Obj := cd [(v "read_operand" 436), (v "read_operand" 437), (vc 438), (jn 117), (jn 2), (jn 0), (jn 0), (jn 3), (r 175), (.bool true), (jn 181), (r 176), nn, (r 177), (r 178), (r 179), (jn 442), (jn 117), (vc 443)]
noncomputable def o181 (P : Params) : Obj := fo (fn (st 24) (z "read_operand") nn (v "ledgerspeak.references" 343) (r 180))
noncomputable def o182 (P : Params) : Obj := tp []
noncomputable def o183 (P : Params) : Obj := fl []
noncomputable def o184 (P : Params) : Obj := tp [(v "reader" 452)]
noncomputable def o185 (P : Params) : Obj := tp []
noncomputable def o186 (P : Params) : Obj := ⟨nn, none, (.func (fp (st 27) (z "read_expression"))), [].toArray⟩
noncomputable def o187 (P : Params) : Obj := cd [(v "read_expression" 449), (v "read_expression" 450), (vc 451), (jn 128), (jn 1), (jn 0), (jn 0), (jn 3), (r 182), (.bool true), (jn 181), (r 183), nn, (r 184), (r 185), (r 186), (jn 453), (jn 128), (vc 454)]
noncomputable def o188 (P : Params) : Obj := fo (fn (st 27) (z "read_expression") nn (v "ledgerspeak.expressions" 445) (r 187))
noncomputable def o189 (P : Params) : Obj := tp []
noncomputable def o190 (P : Params) : Obj := fl []
noncomputable def o191 (P : Params) : Obj := tp [(v "reader" 459), (v "signs" 460), (v "token" 461)]
noncomputable def o192 (P : Params) : Obj := tp []
noncomputable def o193 (P : Params) : Obj := ⟨nn, none, (.func (fp (st 28) (z "sign_among"))), [].toArray⟩
noncomputable def o194 (P : Params) : Obj := cd [(v "sign_among" 456), (v "sign_among" 457), (vc 458), (jn 130), (jn 2), (jn 0), (jn 0), (jn 3), (r 189), (.bool true), (jn 181), (r 190), nn, (r 191), (r 192), (r 193), (jn 462), (jn 130), (vc 463)]
noncomputable def o195 (P : Params) : Obj := fo (fn (st 28) (z "sign_among") nn (v "ledgerspeak.expressions" 445) (r 194))
noncomputable def o196 (P : Params) : Obj := tp []
noncomputable def o197 (P : Params) : Obj := fl []
noncomputable def o198 (P : Params) : Obj := tp [(v "reader" 468), (v "depth" 469), (v "found" 470), (v "sign" 471)]
noncomputable def o199 (P : Params) : Obj := tp []
noncomputable def o200 (P : Params) : Obj := ⟨nn, none, (.func (fp (st 29) (z "read_sum"))), [].toArray⟩
noncomputable def o201 (P : Params) : Obj := cd [(v "read_sum" 465), (v "read_sum" 466), (vc 467), (jn 135), (jn 2), (jn 0), (jn 0), (jn 3), (r 196), (.bool true), (jn 181), (r 197), nn, (r 198), (r 199), (r 200), (jn 472), (jn 135), (vc 473)]
noncomputable def o202 (P : Params) : Obj := fo (fn (st 29) (z "read_sum") nn (v "ledgerspeak.expressions" 445) (r 201))
noncomputable def o203 (P : Params) : Obj := tp []
noncomputable def o204 (P : Params) : Obj := fl []
noncomputable def o205 (P : Params) : Obj := tp [(v "reader" 478), (v "depth" 479), (v "found" 480), (v "sign" 481)]
noncomputable def o206 (P : Params) : Obj := tp []
noncomputable def o207 (P : Params) : Obj := ⟨nn, none, (.func (fp (st 30) (z "read_product"))), [].toArray⟩
noncomputable def o208 (P : Params) : Obj := cd [(v "read_product" 475), (v "read_product" 476), (vc 477), (jn 143), (jn 2), (jn 0), (jn 0), (jn 3), (r 203), (.bool true), (jn 181), (r 204), nn, (r 205), (r 206), (r 207), (jn 482), (jn 143), (vc 483)]
noncomputable def o209 (P : Params) : Obj := fo (fn (st 30) (z "read_product") nn (v "ledgerspeak.expressions" 445) (r 208))
noncomputable def o210 (P : Params) : Obj := tp []
noncomputable def o211 (P : Params) : Obj := fl []
noncomputable def o212 (P : Params) : Obj := tp [(v "reader" 488), (v "depth" 489), (v "sign" 490), (v "is_own" 491), (v "found" 492)]
noncomputable def o213 (P : Params) : Obj := tp []
noncomputable def o214 (P : Params) : Obj := ⟨nn, none, (.func (fp (st 31) (z "read_factor"))), [].toArray⟩
noncomputable def o215 (P : Params) : Obj := cd [(v "read_factor" 485), (v "read_factor" 486), (vc 487), (jn 149), (jn 2), (jn 0), (jn 0), (jn 3), (r 210), (.bool true), (jn 181), (r 211), nn, (r 212), (r 213), (r 214), (jn 493), (jn 149), (vc 494)]
noncomputable def o216 (P : Params) : Obj := fo (fn (st 31) (z "read_factor") nn (v "ledgerspeak.expressions" 445) (r 215))
noncomputable def o217 (P : Params) : Obj := tp []
noncomputable def o218 (P : Params) : Obj := fl []
noncomputable def o219 (P : Params) : Obj := tp [(v "reader" 499), (v "token" 500), (v "behind" 501)]
noncomputable def o220 (P : Params) : Obj := tp []
noncomputable def o221 (P : Params) : Obj := ⟨nn, none, (.func (fp (st 32) (z "is_lone_number"))), [].toArray⟩
noncomputable def o222 (P : Params) : Obj := cd [(v "is_lone_number" 496), (v "is_lone_number" 497), (vc 498), (jn 159), (jn 1), (jn 0), (jn 0), (jn 3), (r 217), (.bool true), (jn 181), (r 218), nn, (r 219), (r 220), (r 221), (jn 502), (jn 159), (vc 503)]
noncomputable def o223 (P : Params) : Obj := fo (fn (st 32) (z "is_lone_number") nn (v "ledgerspeak.expressions" 445) (r 222))
noncomputable def o224 (P : Params) : Obj := tp []
noncomputable def o225 (P : Params) : Obj := fl []
noncomputable def o226 (P : Params) : Obj := tp [(v "reader" 508), (v "depth" 509), (v "found" 510)]
noncomputable def o227 (P : Params) : Obj := tp []
noncomputable def o228 (P : Params) : Obj := ⟨nn, none, (.func (fp (st 33) (z "read_power"))), [].toArray⟩
noncomputable def o229 (P : Params) : Obj := cd [(v "read_power" 505), (v "read_power" 506), (vc 507), (jn 164), (jn 2), (jn 0), (jn 0), (jn 3), (r 224), (.bool true), (jn 181), (r 225), nn, (r 226), (r 227), (r 228), (jn 511), (jn 164), (vc 512)]
noncomputable def o230 (P : Params) : Obj := fo (fn (st 33) (z "read_power") nn (v "ledgerspeak.expressions" 445) (r 229))
noncomputable def o231 (P : Params) : Obj := tp []
noncomputable def o232 (P : Params) : Obj := fl []
noncomputable def o233 (P : Params) : Obj := tp [(v "reader" 517), (v "depth" 518), (v "found" 519)]
noncomputable def o234 (P : Params) : Obj := tp [(v "depth" 520)]
noncomputable def o235 (P : Params) : Obj := ⟨nn, none, (.func (fp (st 34) (z "read_primary"))), [].toArray⟩
noncomputable def o236 (P : Params) : Obj := cd [(v "read_primary" 514), (v "read_primary" 515), (vc 516), (jn 170), (jn 2), (jn 0), (jn 0), (jn 3), (r 231), (.bool true), (jn 181), (r 232), nn, (r 233), (r 234), (r 235), (jn 521), (jn 170), (vc 522)]
noncomputable def o237 (P : Params) : Obj := fo (fn (st 34) (z "read_primary") nn (v "ledgerspeak.expressions" 445) (r 236))
noncomputable def o238 (P : Params) : Obj := ⟨(.type "dict"), none, (.dict [d P "=" 528 (v "<>" 529), d P "<>" 530 (v "=" 531), d P "<" 532 (v ">=" 533), d P ">=" 534 (v "<" 535), d P ">" 536 (v "<=" 537), d P "<=" 538 (v ">" 539)].toArray 6), [].toArray⟩
noncomputable def o239 (P : Params) : Obj := tp [(v "NUMERIC" 547), (v "ALPHABETIC" 548), (v "ALPHABETIC-LOWER" 549), (v "ALPHABETIC-UPPER" 550)]
noncomputable def o240 (P : Params) : Obj := ⟨(.type "dict"), none, (.dict [d P "POSITIVE" 552 (v "POSITIVE" 553), d P "NEGATIVE" 554 (v "NEGATIVE" 555), d P "ZERO" 556 (v "ZERO" 557), d P "ZEROS" 558 (v "ZERO" 559), d P "ZEROES" 560 (v "ZERO" 561)].toArray 5), [].toArray⟩
noncomputable def o241 (P : Params) : Obj := ⟨(.type "dict"), none, (.dict [d P "GREATER" 568 (v ">" 569), d P "LESS" 570 (v "<" 571), d P "EQUAL" 572 (v "=" 573)].toArray 3), [].toArray⟩
noncomputable def o242 (P : Params) : Obj := tp [(v "=" 578), (v "<" 579), (v ">" 580), (v "<=" 581), (v ">=" 582)]
noncomputable def o243 (P : Params) : Obj := tp [(.int 0 584)]
noncomputable def o244 (P : Params) : Obj := tp []
noncomputable def o245 (P : Params) : Obj := fl []
noncomputable def o246 (P : Params) : Obj := tp [(v "reader" 588), (v "ahead" 589), (v "token" 590)]
noncomputable def o247 (P : Params) : Obj := tp []
noncomputable def o248 (P : Params) : Obj := ⟨nn, none, (.func (fp (st 42) (z "word_here"))), [].toArray⟩
noncomputable def o249 (P : Params) : Obj := cd [(v "word_here" 585), (v "word_here" 586), (vc 587), (jn 185), (jn 2), (jn 0), (jn 0), (jn 3), (r 244), (.bool true), (jn 181), (r 245), nn, (r 246), (r 247), (r 248), (jn 591), (jn 185), (vc 592)]
noncomputable def o250 (P : Params) : Obj := fo (fn (st 42) (z "word_here") (r 243) (v "ledgerspeak.conditions" 524) (r 249))
noncomputable def o251 (P : Params) : Obj := tp []
noncomputable def o252 (P : Params) : Obj := fl []
noncomputable def o253 (P : Params) : Obj := tp [(v "reader" 597), (v "ahead" 598), (v "token" 599)]
noncomputable def o254 (P : Params) : Obj := tp []
noncomputable def o255 (P : Params) : Obj := ⟨nn, none, (.func (fp (st 43) (z "is_relation_at"))), [].toArray⟩
noncomputable def o256 (P : Params) : Obj := cd [(v "is_relation_at" 594), (v "is_relation_at" 595), (vc 596), (jn 188), (jn 2), (jn 0), (jn 0), (jn 3), (r 251), (.bool true), (jn 181), (r 252), nn, (r 253), (r 254), (r 255), (jn 600), (jn 188), (vc 601)]
noncomputable def o257 (P : Params) : Obj := fo (fn (st 43) (z "is_relation_at") nn (v "ledgerspeak.conditions" 524) (r 256))
noncomputable def o258 (P : Params) : Obj := tp []
noncomputable def o259 (P : Params) : Obj := fl []
noncomputable def o260 (P : Params) : Obj := tp [(v "reader" 606), (v "ahead" 607)]
noncomputable def o261 (P : Params) : Obj := tp []
noncomputable def o262 (P : Params) : Obj := ⟨nn, none, (.func (fp (st 44) (z "place_of_word"))), [].toArray⟩
noncomputable def o263 (P : Params) : Obj := cd [(v "place_of_word" 603), (v "place_of_word" 604), (vc 605), (jn 193), (jn 1), (jn 0), (jn 0), (jn 3), (r 258), (.bool true), (jn 181), (r 259), nn, (r 260), (r 261), (r 262), (jn 608), (jn 193), (vc 609)]
noncomputable def o264 (P : Params) : Obj := fo (fn (st 44) (z "place_of_word") nn (v "ledgerspeak.conditions" 524) (r 263))
noncomputable def o265 (P : Params) : Obj := tp []
noncomputable def o266 (P : Params) : Obj := fl []
noncomputable def o267 (P : Params) : Obj := tp [(v "reader" 614), (v "ahead" 615), (v "word" 616)]
noncomputable def o268 (P : Params) : Obj := tp []
noncomputable def o269 (P : Params) : Obj := ⟨nn, none, (.func (fp (st 45) (z "is_predicate_here"))), [].toArray⟩
noncomputable def o270 (P : Params) : Obj := cd [(v "is_predicate_here" 611), (v "is_predicate_here" 612), (vc 613), (jn 196), (jn 1), (jn 0), (jn 0), (jn 3), (r 265), (.bool true), (jn 181), (r 266), nn, (r 267), (r 268), (r 269), (jn 617), (jn 196), (vc 618)]
noncomputable def o271 (P : Params) : Obj := fo (fn (st 45) (z "is_predicate_here") nn (v "ledgerspeak.conditions" 524) (r 270))
noncomputable def o272 (P : Params) : Obj := tp []
noncomputable def o273 (P : Params) : Obj := fl []
noncomputable def o274 (P : Params) : Obj := tp [(v "reader" 623)]
noncomputable def o275 (P : Params) : Obj := tp []
noncomputable def o276 (P : Params) : Obj := ⟨nn, none, (.func (fp (st 46) (z "is_bare_relation_here"))), [].toArray⟩
noncomputable def o277 (P : Params) : Obj := cd [(v "is_bare_relation_here" 620), (v "is_bare_relation_here" 621), (vc 622), (jn 200), (jn 1), (jn 0), (jn 0), (jn 3), (r 272), (.bool true), (jn 181), (r 273), nn, (r 274), (r 275), (r 276), (jn 624), (jn 200), (vc 625)]
noncomputable def o278 (P : Params) : Obj := fo (fn (st 46) (z "is_bare_relation_here") nn (v "ledgerspeak.conditions" 524) (r 277))
noncomputable def o279 (P : Params) : Obj := tp []
noncomputable def o280 (P : Params) : Obj := ⟨(.type "builtin_function_or_method"), none, (.fields [(.builtin "type.__prepare__"), (.type "type")].toArray), [].toArray⟩
noncomputable def o281 (P : Params) : Obj := ⟨(.type "dict"), none, (.dict [d P "__module__" 634 (v "ledgerspeak.conditions" 524), d P "__qualname__" 636 (v "ConditionReader" 635), d P "__firstlineno__" 638 (.int 202 637), d P "__init__" 648 (r 292), d P "either" 656 (r 299), d P "both" 664 (r 306), d P "turned" 671 (r 313), d P "single" 682 (r 320), d P "unbracketed" 690 (r 327), d P "in_brackets" 698 (r 334), d P "subject_of_last" 705 (r 341), d P "sign_of_last" 712 (r 348), d P "predicate" 723 (r 355), d P "relation" 733 (r 362), d P "sign_here" 742 (r 369), d P "__static_attributes__" 747 (r 370)].toArray 16), [].toArray⟩
noncomputable def o282 (P : Params) : Obj := tp []
noncomputable def o283 (P : Params) : Obj := fl [(jn 204), (jn 4), (r 291), (jn 210), (jn 4), (r 298), (jn 216), (jn 4), (r 305), (jn 222), (jn 4), (r 312), (jn 228), (jn 4), (r 319), (jn 242), (jn 4), (r 326), (jn 253), (jn 4), (r 333), (jn 262), (jn 4), (r 340), (jn 267), (jn 4), (r 347), (jn 272), (jn 4), (r 354), (jn 286), (jn 4), (r 361), (jn 293), (jn 4), (r 368)]
noncomputable def o284 (P : Params) : Obj := cd [(v "ConditionReader" 629), (v "ConditionReader" 630), (vc 631), (jn 202), (jn 0), (jn 0), (jn 0), (jn 0), (r 282), (.bool false), (jn 181), (r 283), nn, nn, nn, nn, (jn 632), (jn 202), (vc 633)]
noncomputable def o285 (P : Params) : Obj := ⟨(.type "frame"), none, .plain, [(some (r 284)), (some (r 3)), (some (r 281)), none, (some (v "ledgerspeak.conditions" 524)), none, (some (r 0))].toArray⟩
noncomputable def o286 (P : Params) : Obj := tp []
noncomputable def o287 (P : Params) : Obj := fl []
noncomputable def o288 (P : Params) : Obj := tp [(v "self" 642), (v "reader" 643), (v "is_named" 644), (v "depth" 645)]
noncomputable def o289 (P : Params) : Obj := tp []
noncomputable def o290 (P : Params) : Obj := ⟨nn, none, (.func (fp (me 47 0) (z "ConditionReader.__init__"))), [].toArray⟩
noncomputable def o291 (P : Params) : Obj := cd [(v "__init__" 639), (v "ConditionReader.__init__" 640), (vc 641), (jn 204), (jn 4), (jn 0), (jn 0), (jn 3), (r 286), (.bool true), (jn 181), (r 287), nn, (r 288), (r 289), (r 290), (jn 646), (jn 204), (vc 647)]
noncomputable def o292 (P : Params) : Obj := fo (fn (me 47 0) (z "ConditionReader.__init__") nn (v "ledgerspeak.conditions" 524) (r 291))
noncomputable def o293 (P : Params) : Obj := tp []
noncomputable def o294 (P : Params) : Obj := fl []
noncomputable def o295 (P : Params) : Obj := tp [(v "self" 652), (v "found" 653)]
noncomputable def o296 (P : Params) : Obj := tp []
noncomputable def o297 (P : Params) : Obj := ⟨nn, none, (.func (fp (me 47 1) (z "ConditionReader.either"))), [].toArray⟩
noncomputable def o298 (P : Params) : Obj := cd [(v "either" 649), (v "ConditionReader.either" 650), (vc 651), (jn 210), (jn 1), (jn 0), (jn 0), (jn 3), (r 293), (.bool true), (jn 181), (r 294), nn, (r 295), (r 296), (r 297), (jn 654), (jn 210), (vc 655)]
noncomputable def o299 (P : Params) : Obj := fo (fn (me 47 1) (z "ConditionReader.either") nn (v "ledgerspeak.conditions" 524) (r 298))
noncomputable def o300 (P : Params) : Obj := tp []
noncomputable def o301 (P : Params) : Obj := fl []
noncomputable def o302 (P : Params) : Obj := tp [(v "self" 660), (v "found" 661)]
noncomputable def o303 (P : Params) : Obj := tp []
noncomputable def o304 (P : Params) : Obj := ⟨nn, none, (.func (fp (me 47 2) (z "ConditionReader.both"))), [].toArray⟩
noncomputable def o305 (P : Params) : Obj := cd [(v "both" 657), (v "ConditionReader.both" 658), (vc 659), (jn 216), (jn 1), (jn 0), (jn 0), (jn 3), (r 300), (.bool true), (jn 181), (r 301), nn, (r 302), (r 303), (r 304), (jn 662), (jn 216), (vc 663)]
noncomputable def o306 (P : Params) : Obj := fo (fn (me 47 2) (z "ConditionReader.both") nn (v "ledgerspeak.conditions" 524) (r 305))
noncomputable def o307 (P : Params) : Obj := tp []
noncomputable def o308 (P : Params) : Obj := fl []
noncomputable def o309 (P : Params) : Obj := tp [(v "self" 668)]
noncomputable def o310 (P : Params) : Obj := tp []
noncomputable def o311 (P : Params) : Obj := ⟨nn, none, (.func (fp (me 47 3) (z "ConditionReader.turned"))), [].toArray⟩
noncomputable def o312 (P : Params) : Obj := cd [(v "turned" 665), (v "ConditionReader.turned" 666), (vc 667), (jn 222), (jn 1), (jn 0), (jn 0), (jn 3), (r 307), (.bool true), (jn 181), (r 308), nn, (r 309), (r 310), (r 311), (jn 669), (jn 222), (vc 670)]
noncomputable def o313 (P : Params) : Obj := fo (fn (me 47 3) (z "ConditionReader.turned") nn (v "ledgerspeak.conditions" 524) (r 312))
noncomputable def o314 (P : Params) : Obj := tp []
noncomputable def o315 (P : Params) : Obj := fl []
noncomputable def o316 (P : Params) : Obj := tp [(v "self" 675), (v "start" 676), (v "error" 677), (v "elder" 678), (v "far" 679)]
noncomputable def o317 (P : Params) : Obj := tp []
noncomputable def o318 (P : Params) : Obj := ⟨nn, none, (.func (fp (me 47 4) (z "ConditionReader.single"))), [].toArray⟩
noncomputable def o319 (P : Params) : Obj := cd [(v "single" 672), (v "ConditionReader.single" 673), (vc 674), (jn 228), (jn 1), (jn 0), (jn 0), (jn 3), (r 314), (.bool true), (jn 181), (r 315), nn, (r 316), (r 317), (r 318), (jn 680), (jn 228), (vc 681)]
noncomputable def o320 (P : Params) : Obj := fo (fn (me 47 4) (z "ConditionReader.single") nn (v "ledgerspeak.conditions" 524) (r 319))
noncomputable def o321 (P : Params) : Obj := tp []
noncomputable def o322 (P : Params) : Obj := fl []
noncomputable def o323 (P : Params) : Obj := tp [(v "self" 686), (v "subject" 687)]
noncomputable def o324 (P : Params) : Obj := tp []
noncomputable def o325 (P : Params) : Obj := ⟨nn, none, (.func (fp (me 47 5) (z "ConditionReader.unbracketed"))), [].toArray⟩
noncomputable def o326 (P : Params) : Obj := cd [(v "unbracketed" 683), (v "ConditionReader.unbracketed" 684), (vc 685), (jn 242), (jn 1), (jn 0), (jn 0), (jn 3), (r 321), (.bool true), (jn 181), (r 322), nn, (r 323), (r 324), (r 325), (jn 688), (jn 242), (vc 689)]
noncomputable def o327 (P : Params) : Obj := fo (fn (me 47 5) (z "ConditionReader.unbracketed") nn (v "ledgerspeak.conditions" 524) (r 326))
noncomputable def o328 (P : Params) : Obj := tp []
noncomputable def o329 (P : Params) : Obj := fl []
noncomputable def o330 (P : Params) : Obj := tp [(v "self" 694), (v "found" 695)]
noncomputable def o331 (P : Params) : Obj := tp []
noncomputable def o332 (P : Params) : Obj := ⟨nn, none, (.func (fp (me 47 6) (z "ConditionReader.in_brackets"))), [].toArray⟩
noncomputable def o333 (P : Params) : Obj := cd [(v "in_brackets" 691), (v "ConditionReader.in_brackets" 692), (vc 693), (jn 253), (jn 1), (jn 0), (jn 0), (jn 3), (r 328), (.bool true), (jn 181), (r 329), nn, (r 330), (r 331), (r 332), (jn 696), (jn 253), (vc 697)]
noncomputable def o334 (P : Params) : Obj := fo (fn (me 47 6) (z "ConditionReader.in_brackets") nn (v "ledgerspeak.conditions" 524) (r 333))
noncomputable def o335 (P : Params) : Obj := tp []
noncomputable def o336 (P : Params) : Obj := fl []
noncomputable def o337 (P : Params) : Obj := tp [(v "self" 702)]
noncomputable def o338 (P : Params) : Obj := tp []
noncomputable def o339 (P : Params) : Obj := ⟨nn, none, (.func (fp (me 47 7) (z "ConditionReader.subject_of_last"))), [].toArray⟩
noncomputable def o340 (P : Params) : Obj := cd [(v "subject_of_last" 699), (v "ConditionReader.subject_of_last" 700), (vc 701), (jn 262), (jn 1), (jn 0), (jn 0), (jn 3), (r 335), (.bool true), (jn 181), (r 336), nn, (r 337), (r 338), (r 339), (jn 703), (jn 262), (vc 704)]
noncomputable def o341 (P : Params) : Obj := fo (fn (me 47 7) (z "ConditionReader.subject_of_last") nn (v "ledgerspeak.conditions" 524) (r 340))
noncomputable def o342 (P : Params) : Obj := tp []
noncomputable def o343 (P : Params) : Obj := fl []
noncomputable def o344 (P : Params) : Obj := tp [(v "self" 709)]
noncomputable def o345 (P : Params) : Obj := tp []
noncomputable def o346 (P : Params) : Obj := ⟨nn, none, (.func (fp (me 47 8) (z "ConditionReader.sign_of_last"))), [].toArray⟩
noncomputable def o347 (P : Params) : Obj := cd [(v "sign_of_last" 706), (v "ConditionReader.sign_of_last" 707), (vc 708), (jn 267), (jn 1), (jn 0), (jn 0), (jn 3), (r 342), (.bool true), (jn 181), (r 343), nn, (r 344), (r 345), (r 346), (jn 710), (jn 267), (vc 711)]
noncomputable def o348 (P : Params) : Obj := fo (fn (me 47 8) (z "ConditionReader.sign_of_last") nn (v "ledgerspeak.conditions" 524) (r 347))
noncomputable def o349 (P : Params) : Obj := tp []
noncomputable def o350 (P : Params) : Obj := fl []
noncomputable def o351 (P : Params) : Obj := tp [(v "self" 716), (v "subject" 717), (v "word" 718), (v "is_not" 719), (v "found" 720)]
noncomputable def o352 (P : Params) : Obj := tp []
noncomputable def o353 (P : Params) : Obj := ⟨nn, none, (.func (fp (me 47 9) (z "ConditionReader.predicate"))), [].toArray⟩
noncomputable def o354 (P : Params) : Obj := cd [(v "predicate" 713), (v "ConditionReader.predicate" 714), (vc 715), (jn 272), (jn 2), (jn 0), (jn 0), (jn 3), (r 349), (.bool true), (jn 181), (r 350), nn, (r 351), (r 352), (r 353), (jn 721), (jn 272), (vc 722)]
noncomputable def o355 (P : Params) : Obj := fo (fn (me 47 9) (z "ConditionReader.predicate") nn (v "ledgerspeak.conditions" 524) (r 354))
noncomputable def o356 (P : Params) : Obj := tp []
noncomputable def o357 (P : Params) : Obj := fl []
noncomputable def o358 (P : Params) : Obj := tp [(v "self" 727), (v "subject" 728), (v "is_not" 729), (v "sign" 730)]
noncomputable def o359 (P : Params) : Obj := tp []
noncomputable def o360 (P : Params) : Obj := ⟨nn, none, (.func (fp (me 47 10) (z "ConditionReader.relation"))), [].toArray⟩
noncomputable def o361 (P : Params) : Obj := cd [(v "relation" 724), (v "ConditionReader.relation" 725), (vc 726), (jn 286), (jn 2), (jn 0), (jn 0), (jn 3), (r 356), (.bool true), (jn 181), (r 357), nn, (r 358), (r 359), (r 360), (jn 731), (jn 286), (vc 732)]
noncomputable def o362 (P : Params) : Obj := fo (fn (me 47 10) (z "ConditionReader.relation") nn (v "ledgerspeak.conditions" 524) (r 361))
noncomputable def o363 (P : Params) : Obj := tp []
noncomputable def o364 (P : Params) : Obj := fl []
noncomputable def o365 (P : Params) : Obj := tp [(v "self" 737), (v "token" 738), (v "sign" 739)]
noncomputable def o366 (P : Params) : Obj := tp []
noncomputable def o367 (P : Params) : Obj := ⟨nn, none, (.func (fp (me 47 11) (z "ConditionReader.sign_here"))), [].toArray⟩
noncomputable def o368 (P : Params) : Obj := cd [(v "sign_here" 734), (v "ConditionReader.sign_here" 735), (vc 736), (jn 293), (jn 1), (jn 0), (jn 0), (jn 3), (r 363), (.bool true), (jn 181), (r 364), nn, (r 365), (r 366), (r 367), (jn 740), (jn 293), (vc 741)]
noncomputable def o369 (P : Params) : Obj := fo (fn (me 47 11) (z "ConditionReader.sign_here") nn (v "ledgerspeak.conditions" 524) (r 368))
noncomputable def o370 (P : Params) : Obj := tp [(v "depth" 743), (v "is_named" 744), (v "last" 745), (v "reader" 746)]
noncomputable def o371 (P : Params) : Obj := ⟨(.type "dict"), none, (.dict [d P "__module__" 634 (v "ledgerspeak.conditions" 524), d P "__firstlineno__" 638 (.int 202 637), d P "__init__" 648 (r 292), d P "either" 656 (r 299), d P "both" 664 (r 306), d P "turned" 671 (r 313), d P "single" 682 (r 320), d P "unbracketed" 690 (r 327), d P "in_brackets" 698 (r 334), d P "subject_of_last" 705 (r 341), d P "sign_of_last" 712 (r 348), d P "predicate" 723 (r 355), d P "relation" 733 (r 362), d P "sign_here" 742 (r 369), d P "__static_attributes__" 747 (r 370), d P "__dict__" 749 (r 373), d P "__weakref__" 751 (r 374), d P "__doc__" 752 nn].toArray 4), [].toArray⟩
noncomputable def o372 (P : Params) : Obj := ⟨(.type "type"), none, (.cls { name := z "ConditionReader", bases := [(.type "object")], mro := [(r 372), (.type "object")], ns := 371, qualname := z "ConditionReader", hasDict := true, slotNames := [], subclasses := [], abstract := false, collection := none, hasDel := false }), [none, none, (some (v "ConditionReader" 627)), (some (v "ConditionReader" 635)), (some (.builtin "object.__new__")), (some (.bool true))].toArray⟩
noncomputable def o373 (P : Params) : Obj := ⟨(.type "getset_descriptor"), none, (.fields [(v "__dict__" 748), (r 372), (.builtin "function.__dict__"), (.builtin "function.__dict__#set")].toArray), [].toArray⟩
noncomputable def o374 (P : Params) : Obj := ⟨(.type "getset_descriptor"), none, (.fields [(v "__weakref__" 750), (r 372), (.builtin "ExceptionGroup.__weakref__"), nn].toArray), [].toArray⟩
noncomputable def o375 (P : Params) : Obj := ⟨(.type "super"), none, (.fields [(r 372), (r 372), (r 372)].toArray), [].toArray⟩
noncomputable def o376 (P : Params) : Obj := ⟨(.type "builtin_function_or_method"), none, (.fields [(.builtin "object.__init_subclass__"), (r 372)].toArray), [].toArray⟩
noncomputable def o377 (P : Params) : Obj := tp [nn]
noncomputable def o378 (P : Params) : Obj := tp []
noncomputable def o379 (P : Params) : Obj := fl []
noncomputable def o380 (P : Params) : Obj := tp [(v "reader" 758), (v "is_named" 759)]
noncomputable def o381 (P : Params) : Obj := tp [(v "reader" 760)]
noncomputable def o382 (P : Params) : Obj := ⟨nn, none, (.func (fp (st 48) (z "read_condition"))), [].toArray⟩
noncomputable def o383 (P : Params) : Obj := cd [(v "read_condition" 755), (v "read_condition" 756), (vc 757), (jn 305), (jn 2), (jn 0), (jn 0), (jn 3), (r 378), (.bool true), (jn 181), (r 379), nn, (r 380), (r 381), (r 382), (jn 761), (jn 305), (vc 762)]
noncomputable def o384 (P : Params) : Obj := fo (fn (st 48) (z "read_condition") (r 377) (v "ledgerspeak.conditions" 524) (r 383))
noncomputable def o385 (P : Params) : Obj := tp []
noncomputable def o386 (P : Params) : Obj := fl []
noncomputable def o387 (P : Params) : Obj := tp [(v "reader" 769), (v "ahead" 770), (v "word" 771), (v "token" 772)]
noncomputable def o388 (P : Params) : Obj := tp []
noncomputable def o389 (P : Params) : Obj := ⟨nn, none, (.func (fp (st 50) (z "word_ahead"))), [].toArray⟩
noncomputable def o390 (P : Params) : Obj := cd [(v "word_ahead" 766), (v "word_ahead" 767), (vc 768), (jn 310), (jn 3), (jn 0), (jn 0), (jn 3), (r 385), (.bool true), (jn 181), (r 386), nn, (r 387), (r 388), (r 389), (jn 773), (jn 310), (vc 774)]
noncomputable def o391 (P : Params) : Obj := fo (fn (st 50) (z "word_ahead") nn (v "ledgerspeak.readarith" 764) (r 390))
noncomputable def o392 (P : Params) : Obj := tp []
noncomputable def o393 (P : Params) : Obj := fl []
noncomputable def o394 (P : Params) : Obj := tp [(v "key" 779)]
noncomputable def o395 (P : Params) : Obj := tp []
noncomputable def o396 (P : Params) : Obj := ⟨nn, none, (.func (fp (st 51) (z "phrase_words"))), [].toArray⟩
noncomputable def o397 (P : Params) : Obj := cd [(v "phrase_words" 776), (v "phrase_words" 777), (vc 778), (jn 313), (jn 1), (jn 0), (jn 0), (jn 3), (r 392), (.bool true), (jn 181), (r 393), nn, (r 394), (r 395), (r 396), (jn 780), (jn 313), (vc 781)]
noncomputable def o398 (P : Params) : Obj := fo (fn (st 51) (z "phrase_words") nn (v "ledgerspeak.readarith" 764) (r 397))
noncomputable def o399 (P : Params) : Obj := tp []
noncomputable def o400 (P : Params) : Obj := fl []
noncomputable def o401 (P : Params) : Obj := tp [(v "reader" 786), (v "key" 787), (v "ahead" 788), (v "bare" 789), (v "early" 790), (v "needed" 791), (v "late" 792), (v "word" 793)]
noncomputable def o402 (P : Params) : Obj := tp []
noncomputable def o403 (P : Params) : Obj := ⟨nn, none, (.func (fp (st 52) (z "opening_length"))), [].toArray⟩
noncomputable def o404 (P : Params) : Obj := cd [(v "opening_length" 783), (v "opening_length" 784), (vc 785), (jn 323), (jn 2), (jn 0), (jn 0), (jn 3), (r 399), (.bool true), (jn 181), (r 400), nn, (r 401), (r 402), (r 403), (jn 794), (jn 323), (vc 795)]
noncomputable def o405 (P : Params) : Obj := fo (fn (st 52) (z "opening_length") nn (v "ledgerspeak.readarith" 764) (r 404))
noncomputable def o406 (P : Params) : Obj := tp []
noncomputable def o407 (P : Params) : Obj := fl []
noncomputable def o408 (P : Params) : Obj := tp [(v "reader" 800), (v "read_body" 801), (v "body" 802)]
noncomputable def o409 (P : Params) : Obj := tp []
noncomputable def o410 (P : Params) : Obj := ⟨nn, none, (.func (fp (st 53) (z "body_here"))), [].toArray⟩
noncomputable def o411 (P : Params) : Obj := cd [(v "body_here" 797), (v "body_here" 798), (vc 799), (jn 343), (jn 2), (jn 0), (jn 0), (jn 3), (r 406), (.bool true), (jn 181), (r 407), nn, (r 408), (r 409), (r 410), (jn 803), (jn 343), (vc 804)]
noncomputable def o412 (P : Params) : Obj := fo (fn (st 53) (z "body_here") nn (v "ledgerspeak.readarith" 764) (r 411))
noncomputable def o413 (P : Params) : Obj := tp []
noncomputable def o414 (P : Params) : Obj := fl []
noncomputable def o415 (P : Params) : Obj := tp [(v "reader" 809), (v "read_body" 810), (v "keys" 811), (v "branches" 812), (v "key" 813), (v "length" 814), (v "turn" 815)]
noncomputable def o416 (P : Params) : Obj := tp []
noncomputable def o417 (P : Params) : Obj := ⟨nn, none, (.func (fp (st 54) (z "branches_here"))), [].toArray⟩
noncomputable def o418 (P : Params) : Obj := cd [(v "branches_here" 806), (v "branches_here" 807), (vc 808), (jn 348), (jn 3), (jn 0), (jn 0), (jn 3), (r 413), (.bool true), (jn 181), (r 414), nn, (r 415), (r 416), (r 417), (jn 816), (jn 348), (vc 817)]
noncomputable def o419 (P : Params) : Obj := fo (fn (st 54) (z "branches_here") nn (v "ledgerspeak.readarith" 764) (r 418))
noncomputable def o420 (P : Params) : Obj := tp []
noncomputable def o421 (P : Params) : Obj := fl []
noncomputable def o422 (P : Params) : Obj := tp [(v "reader" 822)]
noncomputable def o423 (P : Params) : Obj := tp []
noncomputable def o424 (P : Params) : Obj := ⟨nn, none, (.func (fp (st 55) (z "ref_here"))), [].toArray⟩
noncomputable def o425 (P : Params) : Obj := cd [(v "ref_here" 819), (v "ref_here" 820), (vc 821), (jn 357), (jn 1), (jn 0), (jn 0), (jn 3), (r 420), (.bool true), (jn 181), (r 421), nn, (r 422), (r 423), (r 424), (jn 823), (jn 357), (vc 824)]
noncomputable def o426 (P : Params) : Obj := fo (fn (st 55) (z "ref_here") nn (v "ledgerspeak.readarith" 764) (r 425))
noncomputable def o427 (P : Params) : Obj := tp []
noncomputable def o428 (P : Params) : Obj := fl []
noncomputable def o429 (P : Params) : Obj := tp [(v "reader" 829), (v "mark" 830), (v "what" 831)]
noncomputable def o430 (P : Params) : Obj := tp []
noncomputable def o431 (P : Params) : Obj := ⟨nn, none, (.func (fp (st 56) (z "refuse_at"))), [].toArray⟩
noncomputable def o432 (P : Params) : Obj := cd [(v "refuse_at" 826), (v "refuse_at" 827), (vc 828), (jn 361), (jn 3), (jn 0), (jn 0), (jn 3), (r 427), (.bool true), (jn 181), (r 428), nn, (r 429), (r 430), (r 431), (jn 832), (jn 361), (vc 833)]
noncomputable def o433 (P : Params) : Obj := fo (fn (st 56) (z "refuse_at") nn (v "ledgerspeak.readarith" 764) (r 432))
noncomputable def o434 (P : Params) : Obj := tp []
noncomputable def o435 (P : Params) : Obj := fl []
noncomputable def o436 (P : Params) : Obj := tp [(v "cond" 840)]
noncomputable def o437 (P : Params) : Obj := tp []
noncomputable def o438 (P : Params) : Obj := ⟨nn, none, (.func (fp (st 58) (z "is_key_condition"))), [].toArray⟩
noncomputable def o439 (P : Params) : Obj := cd [(v "is_key_condition" 837), (v "is_key_condition" 838), (vc 839), (jn 365), (jn 1), (jn 0), (jn 0), (jn 3), (r 434), (.bool true), (jn 181), (r 435), nn, (r 436), (r 437), (r 438), (jn 841), (jn 365), (vc 842)]
noncomputable def o440 (P : Params) : Obj := fo (fn (st 58) (z "is_key_condition") nn (v "ledgerspeak.readdata" 835) (r 439))
noncomputable def o441 (P : Params) : Obj := tp []
noncomputable def o442 (P : Params) : Obj := fl []
noncomputable def o443 (P : Params) : Obj := tp [(v "reader" 847), (v "mark" 848), (v "ref" 849)]
noncomputable def o444 (P : Params) : Obj := tp []
noncomputable def o445 (P : Params) : Obj := ⟨nn, none, (.func (fp (st 59) (z "table_here"))), [].toArray⟩
noncomputable def o446 (P : Params) : Obj := cd [(v "table_here" 844), (v "table_here" 845), (vc 846), (jn 369), (jn 1), (jn 0), (jn 0), (jn 3), (r 441), (.bool true), (jn 181), (r 442), nn, (r 443), (r 444), (r 445), (jn 850), (jn 369), (vc 851)]
noncomputable def o447 (P : Params) : Obj := fo (fn (st 59) (z "table_here") nn (v "ledgerspeak.readdata" 835) (r 446))
noncomputable def o448 (P : Params) : Obj := tp []
noncomputable def o449 (P : Params) : Obj := fl []
noncomputable def o450 (P : Params) : Obj := tp [(v "reader" 856), (v "read_body" 857), (v "table" 858), (v "branches" 859), (v "mark" 860), (v "cond" 861)]
noncomputable def o451 (P : Params) : Obj := tp []
noncomputable def o452 (P : Params) : Obj := ⟨nn, none, (.func (fp (st 60) (z "read_search_all"))), [].toArray⟩
noncomputable def o453 (P : Params) : Obj := cd [(v "read_search_all" 853), (v "read_search_all" 854), (vc 855), (jn 375), (jn 2), (jn 0), (jn 0), (jn 3), (r 448), (.bool true), (jn 181), (r 449), nn, (r 450), (r 451), (r 452), (jn 862), (jn 375), (vc 863)]
noncomputable def o454 (P : Params) : Obj := fo (fn (st 60) (z "read_search_all") nn (v "ledgerspeak.readdata" 835) (r 453))
noncomputable def o455 (P : Params) : Obj := tp []
noncomputable def o456 (P : Params) : Obj := fl []
noncomputable def o457 (P : Params) : Obj := tp [(v "reader" 868), (v "read_body" 869), (v "table" 870), (v "varying" 871), (v "branches" 872), (v "conds" 873)]
noncomputable def o458 (P : Params) : Obj := tp []
noncomputable def o459 (P : Params) : Obj := ⟨nn, none, (.func (fp (st 61) (z "read_search"))), [].toArray⟩
noncomputable def o460 (P : Params) : Obj := cd [(v "read_search" 865), (v "read_search" 866), (vc 867), (jn 386), (jn 2), (jn 0), (jn 0), (jn 3), (r 455), (.bool true), (jn 181), (r 456), nn, (r 457), (r 458), (r 459), (jn 874), (jn 386), (vc 875)]
noncomputable def o461 (P : Params) : Obj := fo (fn (st 61) (z "read_search") nn (v "ledgerspeak.readdata" 835) (r 460))
noncomputable def o462 (P : Params) : Obj := tp []
noncomputable def o463 (P : Params) : Obj := fl []
noncomputable def o464 (P : Params) : Obj := tp [(v "word" 886)]
noncomputable def o465 (P : Params) : Obj := tp []
noncomputable def o466 (P : Params) : Obj := ⟨nn, none, (.func (fp (st 65) (z "is_reserved"))), [].toArray⟩
noncomputable def o467 (P : Params) : Obj := cd [(v "is_reserved" 883), (v "is_reserved" 884), (vc 885), (jn 402), (jn 1), (jn 0), (jn 0), (jn 3), (r 462), (.bool true), (jn 181), (r 463), nn, (r 464), (r 465), (r 466), (jn 887), (jn 402), (vc 888)]
noncomputable def o468 (P : Params) : Obj := fo (fn (st 65) (z "is_reserved") nn (v "ledgerspeak.reader" 877) (r 467))
noncomputable def o469 (P : Params) : Obj := tp []
noncomputable def o470 (P : Params) : Obj := fl []
noncomputable def o471 (P : Params) : Obj := ⟨nn, none, (.func (fp (st 66) (z "octets_of_text"))), [].toArray⟩
noncomputable def o472 (P : Params) : Obj := cd [(v "octets_of_text" 890), (v "octets_of_text" 891), (vc 892), (jn 404), (jn 1), (jn 0), (jn 0), (jn 3), (r 469), (.bool true), (jn 181), (r 470), nn, nn, nn, (r 471), (jn 893), (jn 404), (vc 894)]
noncomputable def o473 (P : Params) : Obj := fo (fn (st 66) (z "octets_of_text") nn (v "ledgerspeak.reader" 877) (r 472))
noncomputable def o474 (P : Params) : Obj := tp []
noncomputable def o475 (P : Params) : Obj := ⟨(.type "builtin_function_or_method"), none, (.fields [(.builtin "type.__prepare__"), (.type "type")].toArray), [].toArray⟩
noncomputable def o476 (P : Params) : Obj := ⟨(.type "dict"), none, (.dict [d P "__module__" 903 (v "ledgerspeak.reader" 877), d P "__qualname__" 905 (v "Reader" 904), d P "__firstlineno__" 907 (.int 409 906), d P "__init__" 917 (r 488), d P "peek" 926 (r 496), d P "is_done" 933 (r 503), d P "fault" 941 (r 510), d P "take" 949 (r 517), d P "is_kind" 960 (r 525), d P "is_word" 970 (r 532), d P "skip" 978 (r 539), d P "need" 986 (r 546), d P "one_of" 995 (r 553), d P "word" 1002 (r 560), d P "is_name" 1011 (r 568), d P "name" 1018 (r 575), d P "names" 1026 (r 582), d P "is_sign" 1036 (r 590), d P "skip_sign" 1044 (r 597), d P "need_sign" 1052 (r 604), d P "is_number" 1059 (r 611), d P "signed" 1068 (r 618), d P "whole" 1076 (r 625), d P "literal" 1083 (r 632), d P "octets" 1091 (r 639), d P "__static_attributes__" 1095 (r 640)].toArray 26), [].toArray⟩
noncomputable def o477 (P : Params) : Obj := tp []
noncomputable def o478 (P : Params) : Obj := fl [(jn 411), (jn 4), (r 487), (jn 416), (jn 4), (r 495), (jn 421), (jn 4), (r 502), (jn 424), (jn 4), (r 509), (jn 429), (jn 4), (r 516), (jn 436), (jn 4), (r 524), (jn 440), (jn 4), (r 531), (jn 448), (jn 4), (r 538), (jn 454), (jn 4), (r 545), (jn 458), (jn 4), (r 552), (jn 464), (jn 4), (r 559), (jn 469), (jn 4), (r 567), (jn 472), (jn 4), (r 574), (jn 477), (jn 4), (r 581), (jn 483), (jn 4), (r 589), (jn 486), (jn 4), (r 596), (jn 492), (jn 4), (r 603), (jn 496), (jn 4), (r 610), (jn 501), (jn 4), (r 617), (jn 510), (jn 4), (r 624), (jn 519), (jn 4), (r 631), (jn 524), (jn 4), (r 638)]
noncomputable def o479 (P : Params) : Obj := cd [(v "Reader" 898), (v "Reader" 899), (vc 900), (jn 409), (jn 0), (jn 0), (jn 0), (jn 0), (r 477), (.bool false), (jn 181), (r 478), nn, nn, nn, nn, (jn 901), (jn 409), (vc 902)]
noncomputable def o480 (P : Params) : Obj := ⟨(.type "frame"), none, .plain, [(some (r 479)), (some (r 3)), (some (r 476)), none, (some (v "ledgerspeak.reader" 877)), none, (some (r 0))].toArray⟩
noncomputable def o481 (P : Params) : Obj := tp [(.int 0 908)]
noncomputable def o482 (P : Params) : Obj := tp []
noncomputable def o483 (P : Params) : Obj := fl []
noncomputable def o484 (P : Params) : Obj := tp [(v "self" 912), (v "tokens" 913), (v "at" 914)]
noncomputable def o485 (P : Params) : Obj := tp []
noncomputable def o486 (P : Params) : Obj := ⟨nn, none, (.func (fp (me 67 0) (z "Reader.__init__"))), [].toArray⟩
noncomputable def o487 (P : Params) : Obj := cd [(v "__init__" 909), (v "Reader.__init__" 910), (vc 911), (jn 411), (jn 3), (jn 0), (jn 0), (jn 3), (r 482), (.bool true), (jn 181), (r 483), nn, (r 484), (r 485), (r 486), (jn 915), (jn 411), (vc 916)]
noncomputable def o488 (P : Params) : Obj := fo (fn (me 67 0) (z "Reader.__init__") (r 481) (v "ledgerspeak.reader" 877) (r 487))
noncomputable def o489 (P : Params) : Obj := tp [(.int 0 918)]
noncomputable def o490 (P : Params) : Obj := tp []
noncomputable def o491 (P : Params) : Obj := fl []
noncomputable def o492 (P : Params) : Obj := tp [(v "self" 922), (v "ahead" 923)]
noncomputable def o493 (P : Params) : Obj := tp []
noncomputable def o494 (P : Params) : Obj := ⟨nn, none, (.func (fp (me 67 1) (z "Reader.peek"))), [].toArray⟩
noncomputable def o495 (P : Params) : Obj := cd [(v "peek" 919), (v "Reader.peek" 920), (vc 921), (jn 416), (jn 2), (jn 0), (jn 0), (jn 3), (r 490), (.bool true), (jn 181), (r 491), nn, (r 492), (r 493), (r 494), (jn 924), (jn 416), (vc 925)]
noncomputable def o496 (P : Params) : Obj := fo (fn (me 67 1) (z "Reader.peek") (r 489) (v "ledgerspeak.reader" 877) (r 495))
noncomputable def o497 (P : Params) : Obj := tp []
noncomputable def o498 (P : Params) : Obj := fl []
noncomputable def o499 (P : Params) : Obj := tp [(v "self" 930)]
noncomputable def o500 (P : Params) : Obj := tp []
noncomputable def o501 (P : Params) : Obj := ⟨nn, none, (.func (fp (me 67 2) (z "Reader.is_done"))), [].toArray⟩
noncomputable def o502 (P : Params) : Obj := cd [(v "is_done" 927), (v "Reader.is_done" 928), (vc 929), (jn 421), (jn 1), (jn 0), (jn 0), (jn 3), (r 497), (.bool true), (jn 181), (r 498), nn, (r 499), (r 500), (r 501), (jn 931), (jn 421), (vc 932)]
noncomputable def o503 (P : Params) : Obj := fo (fn (me 67 2) (z "Reader.is_done") nn (v "ledgerspeak.reader" 877) (r 502))
noncomputable def o504 (P : Params) : Obj := tp []
noncomputable def o505 (P : Params) : Obj := fl []
noncomputable def o506 (P : Params) : Obj := tp [(v "self" 937), (v "what" 938)]
noncomputable def o507 (P : Params) : Obj := tp []
noncomputable def o508 (P : Params) : Obj := ⟨nn, none, (.func (fp (me 67 3) (z "Reader.fault"))), [].toArray⟩
noncomputable def o509 (P : Params) : Obj := cd [(v "fault" 934), (v "Reader.fault" 935), (vc 936), (jn 424), (jn 2), (jn 0), (jn 0), (jn 3), (r 504), (.bool true), (jn 181), (r 505), nn, (r 506), (r 507), (r 508), (jn 939), (jn 424), (vc 940)]
noncomputable def o510 (P : Params) : Obj := fo (fn (me 67 3) (z "Reader.fault") nn (v "ledgerspeak.reader" 877) (r 509))
noncomputable def o511 (P : Params) : Obj := tp []
noncomputable def o512 (P : Params) : Obj := fl []
noncomputable def o513 (P : Params) : Obj := tp [(v "self" 945), (v "token" 946)]
noncomputable def o514 (P : Params) : Obj := tp []
noncomputable def o515 (P : Params) : Obj := ⟨nn, none, (.func (fp (me 67 4) (z "Reader.take"))), [].toArray⟩
noncomputable def o516 (P : Params) : Obj := cd [(v "take" 942), (v "Reader.take" 943), (vc 944), (jn 429), (jn 1), (jn 0), (jn 0), (jn 3), (r 511), (.bool true), (jn 181), (r 512), nn, (r 513), (r 514), (r 515), (jn 947), (jn 429), (vc 948)]
noncomputable def o517 (P : Params) : Obj := fo (fn (me 67 4) (z "Reader.take") nn (v "ledgerspeak.reader" 877) (r 516))
noncomputable def o518 (P : Params) : Obj := tp [(.int 0 950)]
noncomputable def o519 (P : Params) : Obj := tp []
noncomputable def o520 (P : Params) : Obj := fl []
noncomputable def o521 (P : Params) : Obj := tp [(v "self" 954), (v "kind" 955), (v "ahead" 956), (v "token" 957)]
noncomputable def o522 (P : Params) : Obj := tp []
noncomputable def o523 (P : Params) : Obj := ⟨nn, none, (.func (fp (me 67 5) (z "Reader.is_kind"))), [].toArray⟩
noncomputable def o524 (P : Params) : Obj := cd [(v "is_kind" 951), (v "Reader.is_kind" 952), (vc 953), (jn 436), (jn 3), (jn 0), (jn 0), (jn 3), (r 519), (.bool true), (jn 181), (r 520), nn, (r 521), (r 522), (r 523), (jn 958), (jn 436), (vc 959)]
noncomputable def o525 (P : Params) : Obj := fo (fn (me 67 5) (z "Reader.is_kind") (r 518) (v "ledgerspeak.reader" 877) (r 524))
noncomputable def o526 (P : Params) : Obj := tp []
noncomputable def o527 (P : Params) : Obj := fl []
noncomputable def o528 (P : Params) : Obj := tp [(v "self" 964), (v "words" 965), (v "ahead" 966), (v "word" 967)]
noncomputable def o529 (P : Params) : Obj := tp []
noncomputable def o530 (P : Params) : Obj := ⟨nn, none, (.func (fp (me 67 6) (z "Reader.is_word"))), [].toArray⟩
noncomputable def o531 (P : Params) : Obj := cd [(v "is_word" 961), (v "Reader.is_word" 962), (vc 963), (jn 440), (jn 2), (jn 0), (jn 0), (jn 3), (r 526), (.bool true), (jn 181), (r 527), nn, (r 528), (r 529), (r 530), (jn 968), (jn 440), (vc 969)]
noncomputable def o532 (P : Params) : Obj := fo (fn (me 67 6) (z "Reader.is_word") nn (v "ledgerspeak.reader" 877) (r 531))
noncomputable def o533 (P : Params) : Obj := tp []
noncomputable def o534 (P : Params) : Obj := fl []
noncomputable def o535 (P : Params) : Obj := tp [(v "self" 974), (v "words" 975)]
noncomputable def o536 (P : Params) : Obj := tp []
noncomputable def o537 (P : Params) : Obj := ⟨nn, none, (.func (fp (me 67 7) (z "Reader.skip"))), [].toArray⟩
noncomputable def o538 (P : Params) : Obj := cd [(v "skip" 971), (v "Reader.skip" 972), (vc 973), (jn 448), (jn 2), (jn 0), (jn 0), (jn 3), (r 533), (.bool true), (jn 181), (r 534), nn, (r 535), (r 536), (r 537), (jn 976), (jn 448), (vc 977)]
noncomputable def o539 (P : Params) : Obj := fo (fn (me 67 7) (z "Reader.skip") nn (v "ledgerspeak.reader" 877) (r 538))
noncomputable def o540 (P : Params) : Obj := tp []
noncomputable def o541 (P : Params) : Obj := fl []
noncomputable def o542 (P : Params) : Obj := tp [(v "self" 982), (v "words" 983)]
noncomputable def o543 (P : Params) : Obj := tp []
noncomputable def o544 (P : Params) : Obj := ⟨nn, none, (.func (fp (me 67 8) (z "Reader.need"))), [].toArray⟩
noncomputable def o545 (P : Params) : Obj := cd [(v "need" 979), (v "Reader.need" 980), (vc 981), (jn 454), (jn 2), (jn 0), (jn 0), (jn 3), (r 540), (.bool true), (jn 181), (r 541), nn, (r 542), (r 543), (r 544), (jn 984), (jn 454), (vc 985)]
noncomputable def o546 (P : Params) : Obj := fo (fn (me 67 8) (z "Reader.need") nn (v "ledgerspeak.reader" 877) (r 545))
noncomputable def o547 (P : Params) : Obj := tp []
noncomputable def o548 (P : Params) : Obj := fl []
noncomputable def o549 (P : Params) : Obj := tp [(v "self" 990), (v "words" 991), (v "word" 992)]
noncomputable def o550 (P : Params) : Obj := tp []
noncomputable def o551 (P : Params) : Obj := ⟨nn, none, (.func (fp (me 67 9) (z "Reader.one_of"))), [].toArray⟩
noncomputable def o552 (P : Params) : Obj := cd [(v "one_of" 987), (v "Reader.one_of" 988), (vc 989), (jn 458), (jn 2), (jn 0), (jn 0), (jn 3), (r 547), (.bool true), (jn 181), (r 548), nn, (r 549), (r 550), (r 551), (jn 993), (jn 458), (vc 994)]
noncomputable def o553 (P : Params) : Obj := fo (fn (me 67 9) (z "Reader.one_of") nn (v "ledgerspeak.reader" 877) (r 552))
noncomputable def o554 (P : Params) : Obj := tp []
noncomputable def o555 (P : Params) : Obj := fl []
noncomputable def o556 (P : Params) : Obj := tp [(v "self" 999)]
noncomputable def o557 (P : Params) : Obj := tp []
noncomputable def o558 (P : Params) : Obj := ⟨nn, none, (.func (fp (me 67 10) (z "Reader.word"))), [].toArray⟩
noncomputable def o559 (P : Params) : Obj := cd [(v "word" 996), (v "Reader.word" 997), (vc 998), (jn 464), (jn 1), (jn 0), (jn 0), (jn 3), (r 554), (.bool true), (jn 181), (r 555), nn, (r 556), (r 557), (r 558), (jn 1000), (jn 464), (vc 1001)]
noncomputable def o560 (P : Params) : Obj := fo (fn (me 67 10) (z "Reader.word") nn (v "ledgerspeak.reader" 877) (r 559))
noncomputable def o561 (P : Params) : Obj := tp [(.int 0 1003)]
noncomputable def o562 (P : Params) : Obj := tp []
noncomputable def o563 (P : Params) : Obj := fl []
noncomputable def o564 (P : Params) : Obj := tp [(v "self" 1007), (v "ahead" 1008)]
noncomputable def o565 (P : Params) : Obj := tp []
noncomputable def o566 (P : Params) : Obj := ⟨nn, none, (.func (fp (me 67 11) (z "Reader.is_name"))), [].toArray⟩
noncomputable def o567 (P : Params) : Obj := cd [(v "is_name" 1004), (v "Reader.is_name" 1005), (vc 1006), (jn 469), (jn 2), (jn 0), (jn 0), (jn 3), (r 562), (.bool true), (jn 181), (r 563), nn, (r 564), (r 565), (r 566), (jn 1009), (jn 469), (vc 1010)]
noncomputable def o568 (P : Params) : Obj := fo (fn (me 67 11) (z "Reader.is_name") (r 561) (v "ledgerspeak.reader" 877) (r 567))
noncomputable def o569 (P : Params) : Obj := tp []
noncomputable def o570 (P : Params) : Obj := fl []
noncomputable def o571 (P : Params) : Obj := tp [(v "self" 1015)]
noncomputable def o572 (P : Params) : Obj := tp []
noncomputable def o573 (P : Params) : Obj := ⟨nn, none, (.func (fp (me 67 12) (z "Reader.name"))), [].toArray⟩
noncomputable def o574 (P : Params) : Obj := cd [(v "name" 1012), (v "Reader.name" 1013), (vc 1014), (jn 472), (jn 1), (jn 0), (jn 0), (jn 3), (r 569), (.bool true), (jn 181), (r 570), nn, (r 571), (r 572), (r 573), (jn 1016), (jn 472), (vc 1017)]
noncomputable def o575 (P : Params) : Obj := fo (fn (me 67 12) (z "Reader.name") nn (v "ledgerspeak.reader" 877) (r 574))
noncomputable def o576 (P : Params) : Obj := tp []
noncomputable def o577 (P : Params) : Obj := fl []
noncomputable def o578 (P : Params) : Obj := tp [(v "self" 1022), (v "found" 1023)]
noncomputable def o579 (P : Params) : Obj := tp []
noncomputable def o580 (P : Params) : Obj := ⟨nn, none, (.func (fp (me 67 13) (z "Reader.names"))), [].toArray⟩
noncomputable def o581 (P : Params) : Obj := cd [(v "names" 1019), (v "Reader.names" 1020), (vc 1021), (jn 477), (jn 1), (jn 0), (jn 0), (jn 3), (r 576), (.bool true), (jn 181), (r 577), nn, (r 578), (r 579), (r 580), (jn 1024), (jn 477), (vc 1025)]
noncomputable def o582 (P : Params) : Obj := fo (fn (me 67 13) (z "Reader.names") nn (v "ledgerspeak.reader" 877) (r 581))
noncomputable def o583 (P : Params) : Obj := tp [(.int 0 1027)]
noncomputable def o584 (P : Params) : Obj := tp []
noncomputable def o585 (P : Params) : Obj := fl []
noncomputable def o586 (P : Params) : Obj := tp [(v "self" 1031), (v "sign" 1032), (v "ahead" 1033)]
noncomputable def o587 (P : Params) : Obj := tp []
noncomputable def o588 (P : Params) : Obj := ⟨nn, none, (.func (fp (me 67 14) (z "Reader.is_sign"))), [].toArray⟩
noncomputable def o589 (P : Params) : Obj := cd [(v "is_sign" 1028), (v "Reader.is_sign" 1029), (vc 1030), (jn 483), (jn 3), (jn 0), (jn 0), (jn 3), (r 584), (.bool true), (jn 181), (r 585), nn, (r 586), (r 587), (r 588), (jn 1034), (jn 483), (vc 1035)]
noncomputable def o590 (P : Params) : Obj := fo (fn (me 67 14) (z "Reader.is_sign") (r 583) (v "ledgerspeak.reader" 877) (r 589))
noncomputable def o591 (P : Params) : Obj := tp []
noncomputable def o592 (P : Params) : Obj := fl []
noncomputable def o593 (P : Params) : Obj := tp [(v "self" 1040), (v "sign" 1041)]
noncomputable def o594 (P : Params) : Obj := tp []
noncomputable def o595 (P : Params) : Obj := ⟨nn, none, (.func (fp (me 67 15) (z "Reader.skip_sign"))), [].toArray⟩
noncomputable def o596 (P : Params) : Obj := cd [(v "skip_sign" 1037), (v "Reader.skip_sign" 1038), (vc 1039), (jn 486), (jn 2), (jn 0), (jn 0), (jn 3), (r 591), (.bool true), (jn 181), (r 592), nn, (r 593), (r 594), (r 595), (jn 1042), (jn 486), (vc 1043)]
noncomputable def o597 (P : Params) : Obj := fo (fn (me 67 15) (z "Reader.skip_sign") nn (v "ledgerspeak.reader" 877) (r 596))
noncomputable def o598 (P : Params) : Obj := tp []
noncomputable def o599 (P : Params) : Obj := fl []
noncomputable def o600 (P : Params) : Obj := tp [(v "self" 1048), (v "sign" 1049)]
noncomputable def o601 (P : Params) : Obj := tp []
noncomputable def o602 (P : Params) : Obj := ⟨nn, none, (.func (fp (me 67 16) (z "Reader.need_sign"))), [].toArray⟩
noncomputable def o603 (P : Params) : Obj := cd [(v "need_sign" 1045), (v "Reader.need_sign" 1046), (vc 1047), (jn 492), (jn 2), (jn 0), (jn 0), (jn 3), (r 598), (.bool true), (jn 181), (r 599), nn, (r 600), (r 601), (r 602), (jn 1050), (jn 492), (vc 1051)]
noncomputable def o604 (P : Params) : Obj := fo (fn (me 67 16) (z "Reader.need_sign") nn (v "ledgerspeak.reader" 877) (r 603))
noncomputable def o605 (P : Params) : Obj := tp []
noncomputable def o606 (P : Params) : Obj := fl []
noncomputable def o607 (P : Params) : Obj := tp [(v "self" 1056)]
noncomputable def o608 (P : Params) : Obj := tp []
noncomputable def o609 (P : Params) : Obj := ⟨nn, none, (.func (fp (me 67 17) (z "Reader.is_number"))), [].toArray⟩
noncomputable def o610 (P : Params) : Obj := cd [(v "is_number" 1053), (v "Reader.is_number" 1054), (vc 1055), (jn 496), (jn 1), (jn 0), (jn 0), (jn 3), (r 605), (.bool true), (jn 181), (r 606), nn, (r 607), (r 608), (r 609), (jn 1057), (jn 496), (vc 1058)]
noncomputable def o611 (P : Params) : Obj := fo (fn (me 67 17) (z "Reader.is_number") nn (v "ledgerspeak.reader" 877) (r 610))
noncomputable def o612 (P : Params) : Obj := tp []
noncomputable def o613 (P : Params) : Obj := fl []
noncomputable def o614 (P : Params) : Obj := tp [(v "self" 1063), (v "is_below" 1064), (v "found" 1065)]
noncomputable def o615 (P : Params) : Obj := tp []
noncomputable def o616 (P : Params) : Obj := ⟨nn, none, (.func (fp (me 67 18) (z "Reader.signed"))), [].toArray⟩
noncomputable def o617 (P : Params) : Obj := cd [(v "signed" 1060), (v "Reader.signed" 1061), (vc 1062), (jn 501), (jn 1), (jn 0), (jn 0), (jn 3), (r 612), (.bool true), (jn 181), (r 613), nn, (r 614), (r 615), (r 616), (jn 1066), (jn 501), (vc 1067)]
noncomputable def o618 (P : Params) : Obj := fo (fn (me 67 18) (z "Reader.signed") nn (v "ledgerspeak.reader" 877) (r 617))
noncomputable def o619 (P : Params) : Obj := tp []
noncomputable def o620 (P : Params) : Obj := fl []
noncomputable def o621 (P : Params) : Obj := tp [(v "self" 1072), (v "found" 1073)]
noncomputable def o622 (P : Params) : Obj := tp []
noncomputable def o623 (P : Params) : Obj := ⟨nn, none, (.func (fp (me 67 19) (z "Reader.whole"))), [].toArray⟩
noncomputable def o624 (P : Params) : Obj := cd [(v "whole" 1069), (v "Reader.whole" 1070), (vc 1071), (jn 510), (jn 1), (jn 0), (jn 0), (jn 3), (r 619), (.bool true), (jn 181), (r 620), nn, (r 621), (r 622), (r 623), (jn 1074), (jn 510), (vc 1075)]
noncomputable def o625 (P : Params) : Obj := fo (fn (me 67 19) (z "Reader.whole") nn (v "ledgerspeak.reader" 877) (r 624))
noncomputable def o626 (P : Params) : Obj := tp []
noncomputable def o627 (P : Params) : Obj := fl []
noncomputable def o628 (P : Params) : Obj := tp [(v "self" 1080)]
noncomputable def o629 (P : Params) : Obj := tp []
noncomputable def o630 (P : Params) : Obj := ⟨nn, none, (.func (fp (me 67 20) (z "Reader.literal"))), [].toArray⟩
noncomputable def o631 (P : Params) : Obj := cd [(v "literal" 1077), (v "Reader.literal" 1078), (vc 1079), (jn 519), (jn 1), (jn 0), (jn 0), (jn 3), (r 626), (.bool true), (jn 181), (r 627), nn, (r 628), (r 629), (r 630), (jn 1081), (jn 519), (vc 1082)]
noncomputable def o632 (P : Params) : Obj := fo (fn (me 67 20) (z "Reader.literal") nn (v "ledgerspeak.reader" 877) (r 631))
noncomputable def o633 (P : Params) : Obj := tp []
noncomputable def o634 (P : Params) : Obj := fl []
noncomputable def o635 (P : Params) : Obj := tp [(v "self" 1087), (v "found" 1088)]
noncomputable def o636 (P : Params) : Obj := tp []
noncomputable def o637 (P : Params) : Obj := ⟨nn, none, (.func (fp (me 67 21) (z "Reader.octets"))), [].toArray⟩
noncomputable def o638 (P : Params) : Obj := cd [(v "octets" 1084), (v "Reader.octets" 1085), (vc 1086), (jn 524), (jn 1), (jn 0), (jn 0), (jn 3), (r 633), (.bool true), (jn 181), (r 634), nn, (r 635), (r 636), (r 637), (jn 1089), (jn 524), (vc 1090)]
noncomputable def o639 (P : Params) : Obj := fo (fn (me 67 21) (z "Reader.octets") nn (v "ledgerspeak.reader" 877) (r 638))
noncomputable def o640 (P : Params) : Obj := tp [(v "at" 1092), (v "named" 1093), (v "tokens" 1094)]
noncomputable def o641 (P : Params) : Obj := ⟨(.type "dict"), none, (.dict [d P "__module__" 903 (v "ledgerspeak.reader" 877), d P "__firstlineno__" 907 (.int 409 906), d P "__init__" 917 (r 488), d P "peek" 926 (r 496), d P "is_done" 933 (r 503), d P "fault" 941 (r 510), d P "take" 949 (r 517), d P "is_kind" 960 (r 525), d P "is_word" 970 (r 532), d P "skip" 978 (r 539), d P "need" 986 (r 546), d P "one_of" 995 (r 553), d P "word" 1002 (r 560), d P "is_name" 1011 (r 568), d P "name" 1018 (r 575), d P "names" 1026 (r 582), d P "is_sign" 1036 (r 590), d P "skip_sign" 1044 (r 597), d P "need_sign" 1052 (r 604), d P "is_number" 1059 (r 611), d P "signed" 1068 (r 618), d P "whole" 1076 (r 625), d P "literal" 1083 (r 632), d P "octets" 1091 (r 639), d P "__static_attributes__" 1095 (r 640), d P "__dict__" 1097 (r 643), d P "__weakref__" 1099 (r 644), d P "__doc__" 1100 nn].toArray 4), [].toArray⟩
noncomputable def o642 (P : Params) : Obj := ⟨(.type "type"), none, (.cls { name := z "Reader", bases := [(.type "object")], mro := [(r 642), (.type "object")], ns := 641, qualname := z "Reader", hasDict := true, slotNames := [], subclasses := [], abstract := false, collection := none, hasDel := false }), [none, none, (some (v "Reader" 896)), (some (v "Reader" 904)), (some (.builtin "object.__new__")), (some (.bool true))].toArray⟩
noncomputable def o643 (P : Params) : Obj := ⟨(.type "getset_descriptor"), none, (.fields [(v "__dict__" 1096), (r 642), (.builtin "function.__dict__"), (.builtin "function.__dict__#set")].toArray), [].toArray⟩
noncomputable def o644 (P : Params) : Obj := ⟨(.type "getset_descriptor"), none, (.fields [(v "__weakref__" 1098), (r 642), (.builtin "ExceptionGroup.__weakref__"), nn].toArray), [].toArray⟩
noncomputable def o645 (P : Params) : Obj := ⟨(.type "super"), none, (.fields [(r 642), (r 642), (r 642)].toArray), [].toArray⟩
noncomputable def o646 (P : Params) : Obj := ⟨(.type "builtin_function_or_method"), none, (.fields [(.builtin "object.__init_subclass__"), (r 642)].toArray), [].toArray⟩
noncomputable def o647 (P : Params) : Obj := tp []
noncomputable def o648 (P : Params) : Obj := ⟨(.type "builtin_function_or_method"), none, (.fields [(.builtin "type.__prepare__"), (.type "type")].toArray), [].toArray⟩
noncomputable def o649 (P : Params) : Obj := ⟨(.type "dict"), none, (.dict [d P "__module__" 1112 (v "ledgerspeak.tokens" 1103), d P "__qualname__" 1114 (v "Token" 1113), d P "__firstlineno__" 1116 (.int 533 1115), d P "__init__" 1129 (r 662), d P "told" 1136 (r 669), d P "__static_attributes__" 1141 (r 670)].toArray 6), [].toArray⟩
noncomputable def o650 (P : Params) : Obj := tp []
noncomputable def o651 (P : Params) : Obj := fl [(jn 535), (jn 4), (r 661), (jn 541), (jn 4), (r 668)]
noncomputable def o652 (P : Params) : Obj := cd [(v "Token" 1107), (v "Token" 1108), (vc 1109), (jn 533), (jn 0), (jn 0), (jn 0), (jn 0), (r 650), (.bool false), (jn 181), (r 651), nn, nn, nn, nn, (jn 1110), (jn 533), (vc 1111)]
noncomputable def o653 (P : Params) : Obj := ⟨(.type "frame"), none, .plain, [(some (r 652)), (some (r 3)), (some (r 649)), none, (some (v "ledgerspeak.tokens" 1103)), none, (some (r 0))].toArray⟩
noncomputable def o654 (P : Params) : Obj := tp [(.int 0 1117), (.int 0 1118)]
noncomputable def o655 (P : Params) : Obj := tp [(r 654), (.bool false)]
noncomputable def o656 (P : Params) : Obj := tp []
noncomputable def o657 (P : Params) : Obj := fl []
noncomputable def o658 (P : Params) : Obj := tp [(v "self" 1122), (v "kind" 1123), (v "worth" 1124), (v "at" 1125), (v "is_in_a" 1126)]
noncomputable def o659 (P : Params) : Obj := tp []
noncomputable def o660 (P : Params) : Obj := ⟨nn, none, (.func (fp (me 69 0) (z "Token.__init__"))), [].toArray⟩
noncomputable def o661 (P : Params) : Obj := cd [(v "__init__" 1119), (v "Token.__init__" 1120), (vc 1121), (jn 535), (jn 5), (jn 0), (jn 0), (jn 3), (r 656), (.bool true), (jn 181), (r 657), nn, (r 658), (r 659), (r 660), (jn 1127), (jn 535), (vc 1128)]
noncomputable def o662 (P : Params) : Obj := fo (fn (me 69 0) (z "Token.__init__") (r 655) (v "ledgerspeak.tokens" 1103) (r 661))
noncomputable def o663 (P : Params) : Obj := tp []
noncomputable def o664 (P : Params) : Obj := fl []
noncomputable def o665 (P : Params) : Obj := tp [(v "self" 1133)]
noncomputable def o666 (P : Params) : Obj := tp []
noncomputable def o667 (P : Params) : Obj := ⟨nn, none, (.func (fp (me 69 1) (z "Token.told"))), [].toArray⟩
noncomputable def o668 (P : Params) : Obj := cd [(v "told" 1130), (v "Token.told" 1131), (vc 1132), (jn 541), (jn 1), (jn 0), (jn 0), (jn 3), (r 663), (.bool true), (jn 181), (r 664), nn, (r 665), (r 666), (r 667), (jn 1134), (jn 541), (vc 1135)]
noncomputable def o669 (P : Params) : Obj := fo (fn (me 69 1) (z "Token.told") nn (v "ledgerspeak.tokens" 1103) (r 668))
noncomputable def o670 (P : Params) : Obj := tp [(v "at" 1137), (v "is_in_a" 1138), (v "kind" 1139), (v "worth" 1140)]
noncomputable def o671 (P : Params) : Obj := ⟨(.type "dict"), none, (.dict [d P "__module__" 1112 (v "ledgerspeak.tokens" 1103), d P "__firstlineno__" 1116 (.int 533 1115), d P "__init__" 1129 (r 662), d P "told" 1136 (r 669), d P "__static_attributes__" 1141 (r 670), d P "__dict__" 1143 (r 673), d P "__weakref__" 1145 (r 674), d P "__doc__" 1146 nn].toArray 4), [].toArray⟩
noncomputable def o672 (P : Params) : Obj := ⟨(.type "type"), none, (.cls { name := z "Token", bases := [(.type "object")], mro := [(r 672), (.type "object")], ns := 671, qualname := z "Token", hasDict := true, slotNames := [], subclasses := [], abstract := false, collection := none, hasDel := false }), [none, none, (some (v "Token" 1105)), (some (v "Token" 1113)), (some (.builtin "object.__new__")), (some (.bool true))].toArray⟩
noncomputable def o673 (P : Params) : Obj := ⟨(.type "getset_descriptor"), none, (.fields [(v "__dict__" 1142), (r 672), (.builtin "function.__dict__"), (.builtin "function.__dict__#set")].toArray), [].toArray⟩
noncomputable def o674 (P : Params) : Obj := ⟨(.type "getset_descriptor"), none, (.fields [(v "__weakref__" 1144), (r 672), (.builtin "ExceptionGroup.__weakref__"), nn].toArray), [].toArray⟩
noncomputable def o675 (P : Params) : Obj := ⟨(.type "super"), none, (.fields [(r 672), (r 672), (r 672)].toArray), [].toArray⟩
noncomputable def o676 (P : Params) : Obj := ⟨(.type "builtin_function_or_method"), none, (.fields [(.builtin "object.__init_subclass__"), (r 672)].toArray), [].toArray⟩
noncomputable def o677 (P : Params) : Obj := tp []
noncomputable def o678 (P : Params) : Obj := fl []
noncomputable def o679 (P : Params) : Obj := ⟨nn, none, (.func (fp (st 71) (z "_law_pen"))), [].toArray⟩
noncomputable def o680 (P : Params) : Obj := cd [(v "_law_pen" 1151), (v "_law_pen" 1152), (vc 1153), (jn 544), (jn 1), (jn 0), (jn 0), (jn 3), (r 677), (.bool true), (jn 181), (r 678), nn, nn, nn, (r 679), (jn 1154), (jn 544), (vc 1155)]
noncomputable def o681 (P : Params) : Obj := fo (fn (st 71) (z "_law_pen") nn (v "law_pb0281_01" 1149) (r 680))
noncomputable def o682 (P : Params) : Obj := tp []
noncomputable def o683 (P : Params) : Obj := fl []
noncomputable def o684 (P : Params) : Obj := tp [(v "pen" 1160), (v "many" 1161), (v "turn" 1162), (v "fresh" 1163), (v "digit" 1164)]
noncomputable def o685 (P : Params) : Obj := tp []
noncomputable def o686 (P : Params) : Obj := ⟨nn, none, (.func (fp (st 72) (z "_law_draw"))), [].toArray⟩
noncomputable def o687 (P : Params) : Obj := cd [(v "_law_draw" 1157), (v "_law_draw" 1158), (vc 1159), (jn 547), (jn 2), (jn 0), (jn 0), (jn 3), (r 682), (.bool true), (jn 181), (r 683), nn, (r 684), (r 685), (r 686), (jn 1165), (jn 547), (vc 1166)]
noncomputable def o688 (P : Params) : Obj := fo (fn (st 72) (z "_law_draw") nn (v "law_pb0281_01" 1149) (r 687))
noncomputable def o689 (P : Params) : Obj := tp []
noncomputable def o690 (P : Params) : Obj := fl []
noncomputable def o691 (P : Params) : Obj := tp [(v "pen" 1171), (v "some" 1172)]
noncomputable def o692 (P : Params) : Obj := tp []
noncomputable def o693 (P : Params) : Obj := ⟨nn, none, (.func (fp (st 73) (z "_law_pick"))), [].toArray⟩
noncomputable def o694 (P : Params) : Obj := cd [(v "_law_pick" 1168), (v "_law_pick" 1169), (vc 1170), (jn 556), (jn 2), (jn 0), (jn 0), (jn 3), (r 689), (.bool true), (jn 181), (r 690), nn, (r 691), (r 692), (r 693), (jn 1173), (jn 556), (vc 1174)]
noncomputable def o695 (P : Params) : Obj := fo (fn (st 73) (z "_law_pick") nn (v "law_pb0281_01" 1149) (r 694))
noncomputable def o696 (P : Params) : Obj := tp []
noncomputable def o697 (P : Params) : Obj := fl []
noncomputable def o698 (P : Params) : Obj := ⟨nn, none, (.func (fp (st 74) (z "_law_words"))), [].toArray⟩
noncomputable def o699 (P : Params) : Obj := cd [(v "_law_words" 1176), (v "_law_words" 1177), (vc 1178), (jn 558), (jn 1), (jn 0), (jn 0), (jn 3), (r 696), (.bool true), (jn 181), (r 697), nn, nn, nn, (r 698), (jn 1179), (jn 558), (vc 1180)]
noncomputable def o700 (P : Params) : Obj := fo (fn (st 74) (z "_law_words") nn (v "law_pb0281_01" 1149) (r 699))
noncomputable def o701 (P : Params) : Obj := tp []
noncomputable def o702 (P : Params) : Obj := fl []
noncomputable def o703 (P : Params) : Obj := ⟨nn, none, (.func (fp (st 75) (z "_law_reader"))), [].toArray⟩
noncomputable def o704 (P : Params) : Obj := cd [(v "_law_reader" 1182), (v "_law_reader" 1183), (vc 1184), (jn 560), (jn 1), (jn 0), (jn 0), (jn 3), (r 701), (.bool true), (jn 181), (r 702), nn, nn, nn, (r 703), (jn 1185), (jn 560), (vc 1186)]
noncomputable def o705 (P : Params) : Obj := fo (fn (st 75) (z "_law_reader") nn (v "law_pb0281_01" 1149) (r 704))
noncomputable def o706 (P : Params) : Obj := tp []
noncomputable def o707 (P : Params) : Obj := fl []
noncomputable def o708 (P : Params) : Obj := tp [(v "name" 1191)]
noncomputable def o709 (P : Params) : Obj := tp []
noncomputable def o710 (P : Params) : Obj := ⟨nn, none, (.func (fp (st 76) (z "_law_item"))), [].toArray⟩
noncomputable def o711 (P : Params) : Obj := cd [(v "_law_item" 1188), (v "_law_item" 1189), (vc 1190), (jn 562), (jn 1), (jn 0), (jn 0), (jn 3), (r 706), (.bool true), (jn 181), (r 707), nn, (r 708), (r 709), (r 710), (jn 1192), (jn 562), (vc 1193)]
noncomputable def o712 (P : Params) : Obj := fo (fn (st 76) (z "_law_item") nn (v "law_pb0281_01" 1149) (r 711))
noncomputable def o713 (P : Params) : Obj := tp []
noncomputable def o714 (P : Params) : Obj := fl []
noncomputable def o715 (P : Params) : Obj := tp [(v "pen" 1198), (v "kind" 1199), (v "name" 1200), (v "number" 1201), (v "one" 1202), (v "worth" 1203), (v "sign" 1204)]
noncomputable def o716 (P : Params) : Obj := tp []
noncomputable def o717 (P : Params) : Obj := ⟨nn, none, (.func (fp (st 77) (z "_law_leaf"))), [].toArray⟩
noncomputable def o718 (P : Params) : Obj := cd [(v "_law_leaf" 1195), (v "_law_leaf" 1196), (vc 1197), (jn 564), (jn 2), (jn 0), (jn 0), (jn 3), (r 713), (.bool true), (jn 181), (r 714), nn, (r 715), (r 716), (r 717), (jn 1205), (jn 564), (vc 1206)]
noncomputable def o719 (P : Params) : Obj := fo (fn (st 77) (z "_law_leaf") nn (v "law_pb0281_01" 1149) (r 718))
noncomputable def o720 (P : Params) : Obj := tp []
noncomputable def o721 (P : Params) : Obj := fl []
noncomputable def o722 (P : Params) : Obj := tp [(v "pen" 1211), (v "depth" 1212), (v "most" 1213), (v "form" 1214), (v "first" 1215), (v "second" 1216), (v "word" 1217), (v "tokens" 1218)]
noncomputable def o723 (P : Params) : Obj := tp []
noncomputable def o724 (P : Params) : Obj := ⟨nn, none, (.func (fp (st 78) (z "_law_cond"))), [].toArray⟩
noncomputable def o725 (P : Params) : Obj := cd [(v "_law_cond" 1208), (v "_law_cond" 1209), (vc 1210), (jn 581), (jn 3), (jn 0), (jn 0), (jn 3), (r 720), (.bool true), (jn 181), (r 721), nn, (r 722), (r 723), (r 724), (jn 1219), (jn 581), (vc 1220)]
noncomputable def o726 (P : Params) : Obj := fo (fn (st 78) (z "_law_cond") nn (v "law_pb0281_01" 1149) (r 725))
noncomputable def o727 (P : Params) : Obj := tp []
noncomputable def o728 (P : Params) : Obj := fl []
noncomputable def o729 (P : Params) : Obj := tp [(v "inside" 1225)]
noncomputable def o730 (P : Params) : Obj := tp []
noncomputable def o731 (P : Params) : Obj := ⟨nn, none, (.func (fp (st 79) (z "_law_bracket"))), [].toArray⟩
noncomputable def o732 (P : Params) : Obj := cd [(v "_law_bracket" 1222), (v "_law_bracket" 1223), (vc 1224), (jn 592), (jn 1), (jn 0), (jn 0), (jn 3), (r 727), (.bool true), (jn 181), (r 728), nn, (r 729), (r 730), (r 731), (jn 1226), (jn 592), (vc 1227)]
noncomputable def o733 (P : Params) : Obj := fo (fn (st 79) (z "_law_bracket") nn (v "law_pb0281_01" 1149) (r 732))
noncomputable def o734 (P : Params) : Obj := tp []
noncomputable def o735 (P : Params) : Obj := fl []
noncomputable def o736 (P : Params) : Obj := tp [(v "cond" 1232), (v "is_all" 1233), (v "tokens" 1234), (v "tree" 1235), (v "is_key" 1236), (v "head" 1237), (v "reader" 1238), (v "body" 1239), (v "table" 1240), (v "due" 1241), (v "told" 1242), (v "odd" 1243)]
noncomputable def o737 (P : Params) : Obj := tp []
noncomputable def o738 (P : Params) : Obj := ⟨nn, none, (.func (fp (st 80) (z "_law_right"))), [].toArray⟩
noncomputable def o739 (P : Params) : Obj := cd [(v "_law_right" 1229), (v "_law_right" 1230), (vc 1231), (jn 594), (jn 2), (jn 0), (jn 0), (jn 3), (r 734), (.bool true), (jn 181), (r 735), nn, (r 736), (r 737), (r 738), (jn 1244), (jn 594), (vc 1245)]
noncomputable def o740 (P : Params) : Obj := fo (fn (st 80) (z "_law_right") nn (v "law_pb0281_01" 1149) (r 739))
noncomputable def o741 (P : Params) : Obj := tp []
noncomputable def o742 (P : Params) : Obj := fl []
noncomputable def o743 (P : Params) : Obj := tp [(v "cond" 1250)]
noncomputable def o744 (P : Params) : Obj := tp []
noncomputable def o745 (P : Params) : Obj := ⟨nn, none, (.func (fp (st 81) (z "_law_both"))), [].toArray⟩
noncomputable def o746 (P : Params) : Obj := cd [(v "_law_both" 1247), (v "_law_both" 1248), (vc 1249), (jn 607), (jn 1), (jn 0), (jn 0), (jn 3), (r 741), (.bool true), (jn 181), (r 742), nn, (r 743), (r 744), (r 745), (jn 1251), (jn 607), (vc 1252)]
noncomputable def o747 (P : Params) : Obj := fo (fn (st 81) (z "_law_both") nn (v "law_pb0281_01" 1149) (r 746))
noncomputable def o748 (P : Params) : Obj := tp []
noncomputable def o749 (P : Params) : Obj := fl []
noncomputable def o750 (P : Params) : Obj := ⟨nn, none, (.func (fp (st 82) (z "law"))), [].toArray⟩
noncomputable def o751 (P : Params) : Obj := cd [(v "law" 1254), (v "law" 1255), (vc 1256), (jn 609), (jn 1), (jn 0), (jn 0), (jn 3), (r 748), (.bool true), (jn 181), (r 749), nn, nn, nn, (r 750), (jn 1257), (jn 609), (vc 1258)]
noncomputable def o752 (P : Params) : Obj := fo (fn (st 82) (z "law") nn (v "law_pb0281_01" 1149) (r 751))
noncomputable def body : List Stmt := behindTheImports pw
noncomputable def sts (i j : Nat) : List Stmt := (body.drop i).take (j - i)
noncomputable def env : Env := { scope := pw.main.scope, locals := mainNs, globals := mainNs, cells := [], code := .ref 13, frame := some 14 }
noncomputable def ann : Option Value := some (.ref 6)
noncomputable def cE : Code := .body body env
noncomputable abbrev top : List Frame := [topFrame ⟨0, 0, 0, 0⟩]
noncomputable def h1 (P : Params) : Heap := Heap.mk (Array.mk [boot_o_0 P, boot_o_1 P, boot_o_2 P, boot_o_3 P, boot_o_4 P, boot_o_5 P, boot_o_6 P, boot_o_7 P, boot_o_8 P, boot_o_9 P, boot_o_10 P, o11 P, o12 P, o13 P, o14 P]) {}
noncomputable def hF (P : Params) : Heap := Heap.mk (Array.mk [boot_o_0 P, boot_o_1 P, o2_1 P, o3_13 P, boot_o_4 P, boot_o_5 P, boot_o_6 P, boot_o_7 P, boot_o_8 P, boot_o_9 P, boot_o_10 P, o11 P, o12_13 P, o13 P, o14 P, o15 P, o16 P, o17 P, o18 P, o19 P, o20 P, o21 P, o22 P, o23 P, o24 P, o25 P, o26 P, o27 P, o28 P, o29 P, o30 P, o31 P, o32 P, o33 P, o34 P, o35 P, o36 P, o37 P, o38 P, o39 P, o40 P, o41 P, o42 P, o43 P, o44 P, o45 P, o46 P, o47_2 P, o48 P, o49 P, o50 P, o51 P, o52 P, o53 P, o54 P, o55 P, o56 P, o57 P, o58 P, o59 P, o60 P, o61 P, o62 P, o63 P, o64 P, o65 P, o66 P, o67 P, o68 P, o69 P, o70 P, o71 P, o72 P, o73 P, o74 P, o75 P, o76 P, o77 P, o78 P, o79 P, o80 P, o81 P, o82 P, o83 P, o84 P, o85 P, o86 P, o87 P, o88 P, o89 P, o90 P, o91 P, o92 P, o93 P, o94 P, o95 P, o96 P, o97 P, o98 P, o99 P, o100 P, o101 P, o102 P, o103 P, o104 P, o105 P, o106 P, o107 P, o108 P, o109 P, o110 P, o111 P, o112 P, o113 P, o114 P, o115 P, o116 P, o117 P, o118 P, o119 P, o120 P, o121 P, o122 P, o123 P, o124 P, o125 P, o126 P, o127 P, o128 P, o129 P, o130 P, o131 P, o132 P, o133 P, o134 P, o135 P, o136 P, o137 P, o138 P, o139 P, o140 P, o141 P, o142 P, o143 P, o144 P, o145 P, o146 P, o147 P, o148 P, o149 P, o150 P, o151 P, o152 P, o153 P, o154 P, o155 P, o156 P, o157 P, o158 P, o159 P, o160 P, o161 P, o162 P, o163 P, o164 P, o165 P, o166 P, o167 P, o168 P, o169 P, o170 P, o171 P, o172 P, o173 P, o174 P, o175 P, o176 P, o177 P, o178 P, o179 P, o180 P, o181 P, o182 P, o183 P, o184 P, o185 P, o186 P, o187 P, o188 P, o189 P, o190 P, o191 P, o192 P, o193 P, o194 P, o195 P, o196 P, o197 P, o198 P, o199 P, o200 P, o201 P, o202 P, o203 P, o204 P, o205 P, o206 P, o207 P, o208 P, o209 P, o210 P, o211 P, o212 P, o213 P, o214 P, o215 P, o216 P, o217 P, o218 P, o219 P, o220 P, o221 P, o222 P, o223 P, o224 P, o225 P, o226 P, o227 P, o228 P, o229 P, o230 P, o231 P, o232 P, o233 P, o234 P, o235 P, o236 P, o237 P, o238 P, o239 P, o240 P, o241 P, o242 P, o243 P, o244 P, o245 P, o246 P, o247 P, o248 P, o249 P, o250 P, o251 P, o252 P, o253 P, o254 P, o255 P, o256 P, o257 P, o258 P, o259 P, o260 P, o261 P, o262 P, o263 P, o264 P, o265 P, o266 P, o267 P, o268 P, o269 P, o270 P, o271 P, o272 P, o273 P, o274 P, o275 P, o276 P, o277 P, o278 P, o279 P, o280 P, o281 P, o282 P, o283 P, o284 P, o285 P, o286 P, o287 P, o288 P, o289 P, o290 P, o291 P, o292 P, o293 P, o294 P, o295 P, o296 P, o297 P, o298 P, o299 P, o300 P, o301 P, o302 P, o303 P, o304 P, o305 P, o306 P, o307 P, o308 P, o309 P, o310 P, o311 P, o312 P, o313 P, o314 P, o315 P, o316 P, o317 P, o318 P, o319 P, o320 P, o321 P, o322 P, o323 P, o324 P, o325 P, o326 P, o327 P, o328 P, o329 P, o330 P, o331 P, o332 P, o333 P, o334 P, o335 P, o336 P, o337 P, o338 P, o339 P, o340 P, o341 P, o342 P, o343 P, o344 P, o345 P, o346 P, o347 P, o348 P, o349 P, o350 P, o351 P, o352 P, o353 P, o354 P, o355 P, o356 P, o357 P, o358 P, o359 P, o360 P, o361 P, o362 P, o363 P, o364 P, o365 P, o366 P, o367 P, o368 P, o369 P, o370 P, o371 P, o372 P, o373 P, o374 P, o375 P, o376 P, o377 P, o378 P, o379 P, o380 P, o381 P, o382 P, o383 P, o384 P, o385 P, o386 P, o387 P, o388 P, o389 P, o390 P, o391 P, o392 P, o393 P, o394 P, o395 P, o396 P, o397 P, o398 P, o399 P, o400 P, o401 P, o402 P, o403 P, o404 P, o405 P, o406 P, o407 P, o408 P, o409 P, o410 P, o411 P, o412 P, o413 P, o414 P, o415 P, o416 P, o417 P, o418 P, o419 P, o420 P, o421 P, o422 P, o423 P, o424 P, o425 P, o426 P, o427 P, o428 P, o429 P, o430 P, o431 P, o432 P, o433 P, o434 P, o435 P, o436 P, o437 P, o438 P, o439 P, o440 P, o441 P, o442 P, o443 P, o444 P, o445 P, o446 P, o447 P, o448 P, o449 P, o450 P, o451 P, o452 P, o453 P, o454 P, o455 P, o456 P, o457 P, o458 P, o459 P, o460 P, o461 P, o462 P, o463 P, o464 P, o465 P, o466 P, o467 P, o468 P, o469 P, o470 P, o471 P, o472 P, o473 P, o474 P, o475 P, o476 P, o477 P, o478 P, o479 P, o480 P, o481 P, o482 P, o483 P, o484 P, o485 P, o486 P, o487 P, o488 P, o489 P, o490 P, o491 P, o492 P, o493 P, o494 P, o495 P, o496 P, o497 P, o498 P, o499 P, o500 P, o501 P, o502 P, o503 P, o504 P, o505 P, o506 P, o507 P, o508 P, o509 P, o510 P, o511 P, o512 P, o513 P, o514 P, o515 P, o516 P, o517 P, o518 P, o519 P, o520 P, o521 P, o522 P, o523 P, o524 P, o525 P, o526 P, o527 P, o528 P, o529 P, o530 P, o531 P, o532 P, o533 P, o534 P, o535 P, o536 P, o537 P, o538 P, o539 P, o540 P, o541 P, o542 P, o543 P, o544 P, o545 P, o546 P, o547 P, o548 P, o549 P, o550 P, o551 P, o552 P, o553 P, o554 P, o555 P, o556 P, o557 P, o558 P, o559 P, o560 P, o561 P, o562 P, o563 P, o564 P, o565 P, o566 P, o567 P, o568 P, o569 P, o570 P, o571 P, o572 P, o573 P, o574 P, o575 P, o576 P, o577 P, o578 P, o579 P, o580 P, o581 P, o582 P, o583 P, o584 P, o585 P, o586 P, o587 P, o588 P, o589 P, o590 P, o591 P, o592 P, o593 P, o594 P, o595 P, o596 P, o597 P, o598 P, o599 P, o600 P, o601 P, o602 P, o603 P, o604 P, o605 P, o606 P, o607 P, o608 P, o609 P, o610 P, o611 P, o612 P, o613 P, o614 P, o615 P, o616 P, o617 P, o618 P, o619 P, o620 P, o621 P, o622 P, o623 P, o624 P, o625 P, o626 P, o627 P, o628 P, o629 P, o630 P, o631 P, o632 P, o633 P, o634 P, o635 P, o636 P, o637 P, o638 P, o639 P, o640 P, o641 P, o642 P, o643 P, o644 P, o645 P, o646 P, o647 P, o648 P, o649 P, o650 P, o651 P, o652 P, o653 P, o654 P, o655 P, o656 P, o657 P, o658 P, o659 P, o660 P, o661 P, o662 P, o663 P, o664 P, o665 P, o666 P, o667 P, o668 P, o669 P, o670 P, o671 P, o672 P, o673 P, o674 P, o675 P, o676 P, o677 P, o678 P, o679 P, o680 P, o681 P, o682 P, o683 P, o684 P, o685 P, o686 P, o687 P, o688 P, o689 P, o690 P, o691 P, o692 P, o693 P, o694 P, o695 P, o696 P, o697 P, o698 P, o699 P, o700 P, o701 P, o702 P, o703 P, o704 P, o705 P, o706 P, o707 P, o708 P, o709 P, o710 P, o711 P, o712 P, o713 P, o714 P, o715 P, o716 P, o717 P, o718 P, o719 P, o720 P, o721 P, o722 P, o723 P, o724 P, o725 P, o726 P, o727 P, o728 P, o729 P, o730 P, o731 P, o732 P, o733 P, o734 P, o735 P, o736 P, o737 P, o738 P, o739 P, o740 P, o741 P, o742 P, o743 P, o744 P, o745 P, o746 P, o747 P, o748 P, o749 P, o750 P, o751 P, o752 P]) {}
noncomputable def t2 (P : Params) : BT := bn (boot_o_0 P) (bn (boot_o_1 P) (bn (boot_o_3 P) (bl (boot_o_7 P)) (bl (o11 P))) (bn (boot_o_5 P) (bl (boot_o_9 P)) (bl (o13 P)))) (bn (boot_o_2 P) (bn (boot_o_4 P) (bl (boot_o_8 P)) (bl (o12 P))) (bn (boot_o_6 P) (bl (boot_o_10 P)) (bl (o14 P))))
noncomputable def t3 (P : Params) : BT := bn (boot_o_0 P) (bn (boot_o_1 P) (bn (o3_1 P) (bn (boot_o_7 P) (bn (o15 P) (bl (o31 P)) (bl (o47 P))) (bn (o23 P) (bl (o39 P)) .nil)) (bn (o11 P) (bn (o19 P) (bl (o35 P)) .nil) (bn (o27 P) (bl (o43 P)) .nil))) (bn (boot_o_5 P) (bn (boot_o_9 P) (bn (o17 P) (bl (o33 P)) (bl (o49 P))) (bn (o25 P) (bl (o41 P)) .nil)) (bn (o13 P) (bn (o21 P) (bl (o37 P)) .nil) (bn (o29 P) (bl (o45 P)) .nil)))) (bn (o2_1 P) (bn (boot_o_4 P) (bn (boot_o_8 P) (bn (o16 P) (bl (o32 P)) (bl (o48 P))) (bn (o24 P) (bl (o40 P)) .nil)) (bn (o12_1 P) (bn (o20 P) (bl (o36 P)) .nil) (bn (o28 P) (bl (o44 P)) .nil))) (bn (boot_o_6 P) (bn (boot_o_10 P) (bn (o18 P) (bl (o34 P)) (bl (o50 P))) (bn (o26 P) (bl (o42 P)) .nil)) (bn (o14 P) (bn (o22 P) (bl (o38 P)) .nil) (bn (o30 P) (bl (o46 P)) .nil))))
noncomputable def t4 (P : Params) : BT := bn (boot_o_0 P) (bn (boot_o_1 P) (bn (o3_2 P) (bn (boot_o_7 P) (bn (o15 P) (bl (o31 P)) (bl (o47_1 P))) (bn (o23 P) (bl (o39 P)) (bl (o55 P)))) (bn (o11 P) (bn (o19 P) (bl (o35 P)) (bl (o51 P))) (bn (o27 P) (bl (o43 P)) (bl (o59 P))))) (bn (boot_o_5 P) (bn (boot_o_9 P) (bn (o17 P) (bl (o33 P)) (bl (o49 P))) (bn (o25 P) (bl (o41 P)) (bl (o57 P)))) (bn (o13 P) (bn (o21 P) (bl (o37 P)) (bl (o53 P))) (bn (o29 P) (bl (o45 P)) (bl (o61 P)))))) (bn (o2_1 P) (bn (boot_o_4 P) (bn (boot_o_8 P) (bn (o16 P) (bl (o32 P)) (bl (o48 P))) (bn (o24 P) (bl (o40 P)) (bl (o56 P)))) (bn (o12_2 P) (bn (o20 P) (bl (o36 P)) (bl (o52 P))) (bn (o28 P) (bl (o44 P)) (bl (o60 P))))) (bn (boot_o_6 P) (bn (boot_o_10 P) (bn (o18 P) (bl (o34 P)) (bl (o50 P))) (bn (o26 P) (bl (o42 P)) (bl (o58 P)))) (bn (o14 P) (bn (o22 P) (bl (o38 P)) (bl (o54 P))) (bn (o30 P) (bl (o46 P)) (bl (o62 P))))))
noncomputable def t5 (P : Params) : BT := bn (boot_o_0 P) (bn (boot_o_1 P) (bn (o3_3 P) (bn (boot_o_7 P) (bn (o15 P) (bn (o31 P) (bl (o63 P)) (bl (o95 P))) (bn (o47_2 P) (bl (o79 P)) .nil)) (bn (o23 P) (bn (o39 P) (bl (o71 P)) (bl (o103 P))) (bn (o55 P) (bl (o87 P)) .nil))) (bn (o11 P) (bn (o19 P) (bn (o35 P) (bl (o67 P)) (bl (o99 P))) (bn (o51 P) (bl (o83 P)) .nil)) (bn (o27 P) (bn (o43 P) (bl (o75 P)) (bl (o107 P))) (bn (o59 P) (bl (o91 P)) .nil)))) (bn (boot_o_5 P) (bn (boot_o_9 P) (bn (o17 P) (bn (o33 P) (bl (o65 P)) (bl (o97 P))) (bn (o49 P) (bl (o81 P)) .nil)) (bn (o25 P) (bn (o41 P) (bl (o73 P)) (bl (o105 P))) (bn (o57 P) (bl (o89 P)) .nil))) (bn (o13 P) (bn (o21 P) (bn (o37 P) (bl (o69 P)) (bl (o101 P))) (bn (o53 P) (bl (o85 P)) .nil)) (bn (o29 P) (bn (o45 P) (bl (o77 P)) (bl (o109 P))) (bn (o61 P) (bl (o93 P)) .nil))))) (bn (o2_1 P) (bn (boot_o_4 P) (bn (boot_o_8 P) (bn (o16 P) (bn (o32 P) (bl (o64 P)) (bl (o96 P))) (bn (o48 P) (bl (o80 P)) .nil)) (bn (o24 P) (bn (o40 P) (bl (o72 P)) (bl (o104 P))) (bn (o56 P) (bl (o88 P)) .nil))) (bn (o12_3 P) (bn (o20 P) (bn (o36 P) (bl (o68 P)) (bl (o100 P))) (bn (o52 P) (bl (o84 P)) .nil)) (bn (o28 P) (bn (o44 P) (bl (o76 P)) (bl (o108 P))) (bn (o60 P) (bl (o92 P)) .nil)))) (bn (boot_o_6 P) (bn (boot_o_10 P) (bn (o18 P) (bn (o34 P) (bl (o66 P)) (bl (o98 P))) (bn (o50 P) (bl (o82 P)) .nil)) (bn (o26 P) (bn (o42 P) (bl (o74 P)) (bl (o106 P))) (bn (o58 P) (bl (o90 P)) .nil))) (bn (o14 P) (bn (o22 P) (bn (o38 P) (bl (o70 P)) (bl (o102 P))) (bn (o54 P) (bl (o86 P)) .nil)) (bn (o30 P) (bn (o46 P) (bl (o78 P)) (bl (o110 P))) (bn (o62 P) (bl (o94 P)) .nil)))))
noncomputable def t6 (P : Params) : BT := bn (boot_o_0 P) (bn (boot_o_1 P) (bn (o3_4 P) (bn (boot_o_7 P) (bn (o15 P) (bn (o31 P) (bn (o63 P) (bl (o127 P)) .nil) (bl (o95 P))) (bn (o47_2 P) (bn (o79 P) (bl (o143 P)) .nil) (bl (o111 P)))) (bn (o23 P) (bn (o39 P) (bn (o71 P) (bl (o135 P)) .nil) (bl (o103 P))) (bn (o55 P) (bn (o87 P) (bl (o151 P)) .nil) (bl (o119 P))))) (bn (o11 P) (bn (o19 P) (bn (o35 P) (bn (o67 P) (bl (o131 P)) .nil) (bl (o99 P))) (bn (o51 P) (bn (o83 P) (bl (o147 P)) .nil) (bl (o115 P)))) (bn (o27 P) (bn (o43 P) (bn (o75 P) (bl (o139 P)) .nil) (bl (o107 P))) (bn (o59 P) (bl (o91 P)) (bl (o123 P)))))) (bn (boot_o_5 P) (bn (boot_o_9 P) (bn (o17 P) (bn (o33 P) (bn (o65 P) (bl (o129 P)) .nil) (bl (o97 P))) (bn (o49 P) (bn (o81 P) (bl (o145 P)) .nil) (bl (o113 P)))) (bn (o25 P) (bn (o41 P) (bn (o73 P) (bl (o137 P)) .nil) (bl (o105 P))) (bn (o57 P) (bn (o89 P) (bl (o153 P)) .nil) (bl (o121 P))))) (bn (o13 P) (bn (o21 P) (bn (o37 P) (bn (o69 P) (bl (o133 P)) .nil) (bl (o101 P))) (bn (o53 P) (bn (o85 P) (bl (o149 P)) .nil) (bl (o117 P)))) (bn (o29 P) (bn (o45 P) (bn (o77 P) (bl (o141 P)) .nil) (bl (o109 P))) (bn (o61 P) (bl (o93 P)) (bl (o125 P))))))) (bn (o2_1 P) (bn (boot_o_4 P) (bn (boot_o_8 P) (bn (o16 P) (bn (o32 P) (bn (o64 P) (bl (o128 P)) .nil) (bl (o96 P))) (bn (o48 P) (bn (o80 P) (bl (o144 P)) .nil) (bl (o112 P)))) (bn (o24 P) (bn (o40 P) (bn (o72 P) (bl (o136 P)) .nil) (bl (o104 P))) (bn (o56 P) (bn (o88 P) (bl (o152 P)) .nil) (bl (o120 P))))) (bn (o12_4 P) (bn (o20 P) (bn (o36 P) (bn (o68 P) (bl (o132 P)) .nil) (bl (o100 P))) (bn (o52 P) (bn (o84 P) (bl (o148 P)) .nil) (bl (o116 P)))) (bn (o28 P) (bn (o44 P) (bn (o76 P) (bl (o140 P)) .nil) (bl (o108 P))) (bn (o60 P) (bl (o92 P)) (bl (o124 P)))))) (bn (boot_o_6 P) (bn (boot_o_10 P) (bn (o18 P) (bn (o34 P) (bn (o66 P) (bl (o130 P)) .nil) (bl (o98 P))) (bn (o50 P) (bn (o82 P) (bl (o146 P)) .nil) (bl (o114 P)))) (bn (o26 P) (bn (o42 P) (bn (o74 P) (bl (o138 P)) .nil) (bl (o106 P))) (bn (o58 P) (bl (o90 P)) (bl (o122 P))))) (bn (o14 P) (bn (o22 P) (bn (o38 P) (bn (o70 P) (bl (o134 P)) .nil) (bl (o102 P))) (bn (o54 P) (bn (o86 P) (bl (o150 P)) .nil) (bl (o118 P)))) (bn (o30 P) (bn (o46 P) (bn (o78 P) (bl (o142 P)) .nil) (bl (o110 P))) (bn (o62 P) (bl (o94 P)) (bl (o126 P)))))))
noncomputable def t7 (P : Params) : BT := bn (boot_o_0 P) (bn (boot_o_1 P) (bn (o3_5 P) (bn (boot_o_7 P) (bn (o15 P) (bn (o31 P) (bn (o63 P) (bl (o127 P)) (bl (o191 P))) (bn (o95 P) (bl (o159 P)) (bl (o223 P)))) (bn (o47_2 P) (bn (o79 P) (bl (o143 P)) (bl (o207 P))) (bn (o111 P) (bl (o175 P)) .nil))) (bn (o23 P) (bn (o39 P) (bn (o71 P) (bl (o135 P)) (bl (o199 P))) (bn (o103 P) (bl (o167 P)) (bl (o231 P)))) (bn (o55 P) (bn (o87 P) (bl (o151 P)) (bl (o215 P))) (bn (o119 P) (bl (o183 P)) .nil)))) (bn (o11 P) (bn (o19 P) (bn (o35 P) (bn (o67 P) (bl (o131 P)) (bl (o195 P))) (bn (o99 P) (bl (o163 P)) (bl (o227 P)))) (bn (o51 P) (bn (o83 P) (bl (o147 P)) (bl (o211 P))) (bn (o115 P) (bl (o179 P)) .nil))) (bn (o27 P) (bn (o43 P) (bn (o75 P) (bl (o139 P)) (bl (o203 P))) (bn (o107 P) (bl (o171 P)) (bl (o235 P)))) (bn (o59 P) (bn (o91 P) (bl (o155 P)) (bl (o219 P))) (bn (o123 P) (bl (o187 P)) .nil))))) (bn (boot_o_5 P) (bn (boot_o_9 P) (bn (o17 P) (bn (o33 P) (bn (o65 P) (bl (o129 P)) (bl (o193 P))) (bn (o97 P) (bl (o161 P)) (bl (o225 P)))) (bn (o49 P) (bn (o81 P) (bl (o145 P)) (bl (o209 P))) (bn (o113 P) (bl (o177 P)) .nil))) (bn (o25 P) (bn (o41 P) (bn (o73 P) (bl (o137 P)) (bl (o201 P))) (bn (o105 P) (bl (o169 P)) (bl (o233 P)))) (bn (o57 P) (bn (o89 P) (bl (o153 P)) (bl (o217 P))) (bn (o121 P) (bl (o185 P)) .nil)))) (bn (o13 P) (bn (o21 P) (bn (o37 P) (bn (o69 P) (bl (o133 P)) (bl (o197 P))) (bn (o101 P) (bl (o165 P)) (bl (o229 P)))) (bn (o53 P) (bn (o85 P) (bl (o149 P)) (bl (o213 P))) (bn (o117 P) (bl (o181 P)) .nil))) (bn (o29 P) (bn (o45 P) (bn (o77 P) (bl (o141 P)) (bl (o205 P))) (bn (o109 P) (bl (o173 P)) (bl (o237 P)))) (bn (o61 P) (bn (o93 P) (bl (o157 P)) (bl (o221 P))) (bn (o125 P) (bl (o189 P)) .nil)))))) (bn (o2_1 P) (bn (boot_o_4 P) (bn (boot_o_8 P) (bn (o16 P) (bn (o32 P) (bn (o64 P) (bl (o128 P)) (bl (o192 P))) (bn (o96 P) (bl (o160 P)) (bl (o224 P)))) (bn (o48 P) (bn (o80 P) (bl (o144 P)) (bl (o208 P))) (bn (o112 P) (bl (o176 P)) .nil))) (bn (o24 P) (bn (o40 P) (bn (o72 P) (bl (o136 P)) (bl (o200 P))) (bn (o104 P) (bl (o168 P)) (bl (o232 P)))) (bn (o56 P) (bn (o88 P) (bl (o152 P)) (bl (o216 P))) (bn (o120 P) (bl (o184 P)) .nil)))) (bn (o12_5 P) (bn (o20 P) (bn (o36 P) (bn (o68 P) (bl (o132 P)) (bl (o196 P))) (bn (o100 P) (bl (o164 P)) (bl (o228 P)))) (bn (o52 P) (bn (o84 P) (bl (o148 P)) (bl (o212 P))) (bn (o116 P) (bl (o180 P)) .nil))) (bn (o28 P) (bn (o44 P) (bn (o76 P) (bl (o140 P)) (bl (o204 P))) (bn (o108 P) (bl (o172 P)) (bl (o236 P)))) (bn (o60 P) (bn (o92 P) (bl (o156 P)) (bl (o220 P))) (bn (o124 P) (bl (o188 P)) .nil))))) (bn (boot_o_6 P) (bn (boot_o_10 P) (bn (o18 P) (bn (o34 P) (bn (o66 P) (bl (o130 P)) (bl (o194 P))) (bn (o98 P) (bl (o162 P)) (bl (o226 P)))) (bn (o50 P) (bn (o82 P) (bl (o146 P)) (bl (o210 P))) (bn (o114 P) (bl (o178 P)) .nil))) (bn (o26 P) (bn (o42 P) (bn (o74 P) (bl (o138 P)) (bl (o202 P))) (bn (o106 P) (bl (o170 P)) (bl (o234 P)))) (bn (o58 P) (bn (o90 P) (bl (o154 P)) (bl (o218 P))) (bn (o122 P) (bl (o186 P)) .nil)))) (bn (o14 P) (bn (o22 P) (bn (o38 P) (bn (o70 P) (bl (o134 P)) (bl (o198 P))) (bn (o102 P) (bl (o166 P)) (bl (o230 P)))) (bn (o54 P) (bn (o86 P) (bl (o150 P)) (bl (o214 P))) (bn (o118 P) (bl (o182 P)) .nil))) (bn (o30 P) (bn (o46 P) (bn (o78 P) (bl (o142 P)) (bl (o206 P))) (bn (o110 P) (bl (o174 P)) .nil)) (bn (o62 P) (bn (o94 P) (bl (o158 P)) (bl (o222 P))) (bn (o126 P) (bl (o190 P)) .nil))))))
noncomputable def t8 (P : Params) : BT := bn (boot_o_0 P) (bn (boot_o_1 P) (bn (o3_6 P) (bn (boot_o_7 P) (bn (o15 P) (bn (o31 P) (bn (o63 P) (bn (o127 P) (bl (o255 P)) .nil) (bl (o191 P))) (bn (o95 P) (bl (o159 P)) (bl (o223 P)))) (bn (o47_2 P) (bn (o79 P) (bl (o143 P)) (bl (o207 P))) (bn (o111 P) (bl (o175 P)) (bl (o239 P))))) (bn (o23 P) (bn (o39 P) (bn (o71 P) (bn (o135 P) (bl (o263 P)) .nil) (bl (o199 P))) (bn (o103 P) (bl (o167 P)) (bl (o231 P)))) (bn (o55 P) (bn (o87 P) (bl (o151 P)) (bl (o215 P))) (bn (o119 P) (bl (o183 P)) (bl (o247 P)))))) (bn (o11 P) (bn (o19 P) (bn (o35 P) (bn (o67 P) (bn (o131 P) (bl (o259 P)) .nil) (bl (o195 P))) (bn (o99 P) (bl (o163 P)) (bl (o227 P)))) (bn (o51 P) (bn (o83 P) (bl (o147 P)) (bl (o211 P))) (bn (o115 P) (bl (o179 P)) (bl (o243 P))))) (bn (o27 P) (bn (o43 P) (bn (o75 P) (bl (o139 P)) (bl (o203 P))) (bn (o107 P) (bl (o171 P)) (bl (o235 P)))) (bn (o59 P) (bn (o91 P) (bl (o155 P)) (bl (o219 P))) (bn (o123 P) (bl (o187 P)) (bl (o251 P))))))) (bn (boot_o_5 P) (bn (boot_o_9 P) (bn (o17 P) (bn (o33 P) (bn (o65 P) (bn (o129 P) (bl (o257 P)) .nil) (bl (o193 P))) (bn (o97 P) (bl (o161 P)) (bl (o225 P)))) (bn (o49 P) (bn (o81 P) (bl (o145 P)) (bl (o209 P))) (bn (o113 P) (bl (o177 P)) (bl (o241 P))))) (bn (o25 P) (bn (o41 P) (bn (o73 P) (bl (o137 P)) (bl (o201 P))) (bn (o105 P) (bl (o169 P)) (bl (o233 P)))) (bn (o57 P) (bn (o89 P) (bl (o153 P)) (bl (o217 P))) (bn (o121 P) (bl (o185 P)) (bl (o249 P)))))) (bn (o13 P) (bn (o21 P) (bn (o37 P) (bn (o69 P) (bn (o133 P) (bl (o261 P)) .nil) (bl (o197 P))) (bn (o101 P) (bl (o165 P)) (bl (o229 P)))) (bn (o53 P) (bn (o85 P) (bl (o149 P)) (bl (o213 P))) (bn (o117 P) (bl (o181 P)) (bl (o245 P))))) (bn (o29 P) (bn (o45 P) (bn (o77 P) (bl (o141 P)) (bl (o205 P))) (bn (o109 P) (bl (o173 P)) (bl (o237 P)))) (bn (o61 P) (bn (o93 P) (bl (o157 P)) (bl (o221 P))) (bn (o125 P) (bl (o189 P)) (bl (o253 P)))))))) (bn (o2_1 P) (bn (boot_o_4 P) (bn (boot_o_8 P) (bn (o16 P) (bn (o32 P) (bn (o64 P) (bn (o128 P) (bl (o256 P)) .nil) (bl (o192 P))) (bn (o96 P) (bl (o160 P)) (bl (o224 P)))) (bn (o48 P) (bn (o80 P) (bl (o144 P)) (bl (o208 P))) (bn (o112 P) (bl (o176 P)) (bl (o240 P))))) (bn (o24 P) (bn (o40 P) (bn (o72 P) (bn (o136 P) (bl (o264 P)) .nil) (bl (o200 P))) (bn (o104 P) (bl (o168 P)) (bl (o232 P)))) (bn (o56 P) (bn (o88 P) (bl (o152 P)) (bl (o216 P))) (bn (o120 P) (bl (o184 P)) (bl (o248 P)))))) (bn (o12_6 P) (bn (o20 P) (bn (o36 P) (bn (o68 P) (bn (o132 P) (bl (o260 P)) .nil) (bl (o196 P))) (bn (o100 P) (bl (o164 P)) (bl (o228 P)))) (bn (o52 P) (bn (o84 P) (bl (o148 P)) (bl (o212 P))) (bn (o116 P) (bl (o180 P)) (bl (o244 P))))) (bn (o28 P) (bn (o44 P) (bn (o76 P) (bl (o140 P)) (bl (o204 P))) (bn (o108 P) (bl (o172 P)) (bl (o236 P)))) (bn (o60 P) (bn (o92 P) (bl (o156 P)) (bl (o220 P))) (bn (o124 P) (bl (o188 P)) (bl (o252 P))))))) (bn (boot_o_6 P) (bn (boot_o_10 P) (bn (o18 P) (bn (o34 P) (bn (o66 P) (bn (o130 P) (bl (o258 P)) .nil) (bl (o194 P))) (bn (o98 P) (bl (o162 P)) (bl (o226 P)))) (bn (o50 P) (bn (o82 P) (bl (o146 P)) (bl (o210 P))) (bn (o114 P) (bl (o178 P)) (bl (o242 P))))) (bn (o26 P) (bn (o42 P) (bn (o74 P) (bl (o138 P)) (bl (o202 P))) (bn (o106 P) (bl (o170 P)) (bl (o234 P)))) (bn (o58 P) (bn (o90 P) (bl (o154 P)) (bl (o218 P))) (bn (o122 P) (bl (o186 P)) (bl (o250 P)))))) (bn (o14 P) (bn (o22 P) (bn (o38 P) (bn (o70 P) (bn (o134 P) (bl (o262 P)) .nil) (bl (o198 P))) (bn (o102 P) (bl (o166 P)) (bl (o230 P)))) (bn (o54 P) (bn (o86 P) (bl (o150 P)) (bl (o214 P))) (bn (o118 P) (bl (o182 P)) (bl (o246 P))))) (bn (o30 P) (bn (o46 P) (bn (o78 P) (bl (o142 P)) (bl (o206 P))) (bn (o110 P) (bl (o174 P)) (bl (o238 P)))) (bn (o62 P) (bn (o94 P) (bl (o158 P)) (bl (o222 P))) (bn (o126 P) (bl (o190 P)) (bl (o254 P))))))))
noncomputable def t9 (P : Params) : BT := bn (boot_o_0 P) (bn (boot_o_1 P) (bn (o3_7 P) (bn (boot_o_7 P) (bn (o15 P) (bn (o31 P) (bn (o63 P) (bn (o127 P) (bl (o255 P)) .nil) (bl (o191 P))) (bn (o95 P) (bl (o159 P)) (bl (o223 P)))) (bn (o47_2 P) (bn (o79 P) (bn (o143 P) (bl (o271 P)) .nil) (bl (o207 P))) (bn (o111 P) (bl (o175 P)) (bl (o239 P))))) (bn (o23 P) (bn (o39 P) (bn (o71 P) (bn (o135 P) (bl (o263 P)) .nil) (bl (o199 P))) (bn (o103 P) (bl (o167 P)) (bl (o231 P)))) (bn (o55 P) (bn (o87 P) (bl (o151 P)) (bl (o215 P))) (bn (o119 P) (bl (o183 P)) (bl (o247 P)))))) (bn (o11 P) (bn (o19 P) (bn (o35 P) (bn (o67 P) (bn (o131 P) (bl (o259 P)) .nil) (bl (o195 P))) (bn (o99 P) (bl (o163 P)) (bl (o227 P)))) (bn (o51 P) (bn (o83 P) (bn (o147 P) (bl (o275 P)) .nil) (bl (o211 P))) (bn (o115 P) (bl (o179 P)) (bl (o243 P))))) (bn (o27 P) (bn (o43 P) (bn (o75 P) (bn (o139 P) (bl (o267 P)) .nil) (bl (o203 P))) (bn (o107 P) (bl (o171 P)) (bl (o235 P)))) (bn (o59 P) (bn (o91 P) (bl (o155 P)) (bl (o219 P))) (bn (o123 P) (bl (o187 P)) (bl (o251 P))))))) (bn (boot_o_5 P) (bn (boot_o_9 P) (bn (o17 P) (bn (o33 P) (bn (o65 P) (bn (o129 P) (bl (o257 P)) .nil) (bl (o193 P))) (bn (o97 P) (bl (o161 P)) (bl (o225 P)))) (bn (o49 P) (bn (o81 P) (bn (o145 P) (bl (o273 P)) .nil) (bl (o209 P))) (bn (o113 P) (bl (o177 P)) (bl (o241 P))))) (bn (o25 P) (bn (o41 P) (bn (o73 P) (bn (o137 P) (bl (o265 P)) .nil) (bl (o201 P))) (bn (o105 P) (bl (o169 P)) (bl (o233 P)))) (bn (o57 P) (bn (o89 P) (bl (o153 P)) (bl (o217 P))) (bn (o121 P) (bl (o185 P)) (bl (o249 P)))))) (bn (o13 P) (bn (o21 P) (bn (o37 P) (bn (o69 P) (bn (o133 P) (bl (o261 P)) .nil) (bl (o197 P))) (bn (o101 P) (bl (o165 P)) (bl (o229 P)))) (bn (o53 P) (bn (o85 P) (bn (o149 P) (bl (o277 P)) .nil) (bl (o213 P))) (bn (o117 P) (bl (o181 P)) (bl (o245 P))))) (bn (o29 P) (bn (o45 P) (bn (o77 P) (bn (o141 P) (bl (o269 P)) .nil) (bl (o205 P))) (bn (o109 P) (bl (o173 P)) (bl (o237 P)))) (bn (o61 P) (bn (o93 P) (bl (o157 P)) (bl (o221 P))) (bn (o125 P) (bl (o189 P)) (bl (o253 P)))))))) (bn (o2_1 P) (bn (boot_o_4 P) (bn (boot_o_8 P) (bn (o16 P) (bn (o32 P) (bn (o64 P) (bn (o128 P) (bl (o256 P)) .nil) (bl (o192 P))) (bn (o96 P) (bl (o160 P)) (bl (o224 P)))) (bn (o48 P) (bn (o80 P) (bn (o144 P) (bl (o272 P)) .nil) (bl (o208 P))) (bn (o112 P) (bl (o176 P)) (bl (o240 P))))) (bn (o24 P) (bn (o40 P) (bn (o72 P) (bn (o136 P) (bl (o264 P)) .nil) (bl (o200 P))) (bn (o104 P) (bl (o168 P)) (bl (o232 P)))) (bn (o56 P) (bn (o88 P) (bl (o152 P)) (bl (o216 P))) (bn (o120 P) (bl (o184 P)) (bl (o248 P)))))) (bn (o12_7 P) (bn (o20 P) (bn (o36 P) (bn (o68 P) (bn (o132 P) (bl (o260 P)) .nil) (bl (o196 P))) (bn (o100 P) (bl (o164 P)) (bl (o228 P)))) (bn (o52 P) (bn (o84 P) (bn (o148 P) (bl (o276 P)) .nil) (bl (o212 P))) (bn (o116 P) (bl (o180 P)) (bl (o244 P))))) (bn (o28 P) (bn (o44 P) (bn (o76 P) (bn (o140 P) (bl (o268 P)) .nil) (bl (o204 P))) (bn (o108 P) (bl (o172 P)) (bl (o236 P)))) (bn (o60 P) (bn (o92 P) (bl (o156 P)) (bl (o220 P))) (bn (o124 P) (bl (o188 P)) (bl (o252 P))))))) (bn (boot_o_6 P) (bn (boot_o_10 P) (bn (o18 P) (bn (o34 P) (bn (o66 P) (bn (o130 P) (bl (o258 P)) .nil) (bl (o194 P))) (bn (o98 P) (bl (o162 P)) (bl (o226 P)))) (bn (o50 P) (bn (o82 P) (bn (o146 P) (bl (o274 P)) .nil) (bl (o210 P))) (bn (o114 P) (bl (o178 P)) (bl (o242 P))))) (bn (o26 P) (bn (o42 P) (bn (o74 P) (bn (o138 P) (bl (o266 P)) .nil) (bl (o202 P))) (bn (o106 P) (bl (o170 P)) (bl (o234 P)))) (bn (o58 P) (bn (o90 P) (bl (o154 P)) (bl (o218 P))) (bn (o122 P) (bl (o186 P)) (bl (o250 P)))))) (bn (o14 P) (bn (o22 P) (bn (o38 P) (bn (o70 P) (bn (o134 P) (bl (o262 P)) .nil) (bl (o198 P))) (bn (o102 P) (bl (o166 P)) (bl (o230 P)))) (bn (o54 P) (bn (o86 P) (bn (o150 P) (bl (o278 P)) .nil) (bl (o214 P))) (bn (o118 P) (bl (o182 P)) (bl (o246 P))))) (bn (o30 P) (bn (o46 P) (bn (o78 P) (bn (o142 P) (bl (o270 P)) .nil) (bl (o206 P))) (bn (o110 P) (bl (o174 P)) (bl (o238 P)))) (bn (o62 P) (bn (o94 P) (bl (o158 P)) (bl (o222 P))) (bn (o126 P) (bl (o190 P)) (bl (o254 P))))))))
noncomputable def t10 (P : Params) : BT := bn (boot_o_0 P) (bn (boot_o_1 P) (bn (o3_8 P) (bn (boot_o_7 P) (bn (o15 P) (bn (o31 P) (bn (o63 P) (bn (o127 P) (bl (o255 P)) .nil) (bn (o191 P) (bl (o319 P)) .nil)) (bn (o95 P) (bn (o159 P) (bl (o287 P)) .nil) (bn (o223 P) (bl (o351 P)) .nil))) (bn (o47_2 P) (bn (o79 P) (bn (o143 P) (bl (o271 P)) .nil) (bn (o207 P) (bl (o335 P)) .nil)) (bn (o111 P) (bn (o175 P) (bl (o303 P)) .nil) (bn (o239 P) (bl (o367 P)) .nil)))) (bn (o23 P) (bn (o39 P) (bn (o71 P) (bn (o135 P) (bl (o263 P)) .nil) (bn (o199 P) (bl (o327 P)) .nil)) (bn (o103 P) (bn (o167 P) (bl (o295 P)) .nil) (bn (o231 P) (bl (o359 P)) .nil))) (bn (o55 P) (bn (o87 P) (bn (o151 P) (bl (o279 P)) .nil) (bn (o215 P) (bl (o343 P)) .nil)) (bn (o119 P) (bn (o183 P) (bl (o311 P)) .nil) (bn (o247 P) (bl (o375 P)) .nil))))) (bn (o11 P) (bn (o19 P) (bn (o35 P) (bn (o67 P) (bn (o131 P) (bl (o259 P)) .nil) (bn (o195 P) (bl (o323 P)) .nil)) (bn (o99 P) (bn (o163 P) (bl (o291 P)) .nil) (bn (o227 P) (bl (o355 P)) .nil))) (bn (o51 P) (bn (o83 P) (bn (o147 P) (bl (o275 P)) .nil) (bn (o211 P) (bl (o339 P)) .nil)) (bn (o115 P) (bn (o179 P) (bl (o307 P)) .nil) (bn (o243 P) (bl (o371 P)) .nil)))) (bn (o27 P) (bn (o43 P) (bn (o75 P) (bn (o139 P) (bl (o267 P)) .nil) (bn (o203 P) (bl (o331 P)) .nil)) (bn (o107 P) (bn (o171 P) (bl (o299 P)) .nil) (bn (o235 P) (bl (o363 P)) .nil))) (bn (o59 P) (bn (o91 P) (bn (o155 P) (bl (o283 P)) .nil) (bn (o219 P) (bl (o347 P)) .nil)) (bn (o123 P) (bn (o187 P) (bl (o315 P)) .nil) (bl (o251 P))))))) (bn (boot_o_5 P) (bn (boot_o_9 P) (bn (o17 P) (bn (o33 P) (bn (o65 P) (bn (o129 P) (bl (o257 P)) .nil) (bn (o193 P) (bl (o321 P)) .nil)) (bn (o97 P) (bn (o161 P) (bl (o289 P)) .nil) (bn (o225 P) (bl (o353 P)) .nil))) (bn (o49 P) (bn (o81 P) (bn (o145 P) (bl (o273 P)) .nil) (bn (o209 P) (bl (o337 P)) .nil)) (bn (o113 P) (bn (o177 P) (bl (o305 P)) .nil) (bn (o241 P) (bl (o369 P)) .nil)))) (bn (o25 P) (bn (o41 P) (bn (o73 P) (bn (o137 P) (bl (o265 P)) .nil) (bn (o201 P) (bl (o329 P)) .nil)) (bn (o105 P) (bn (o169 P) (bl (o297 P)) .nil) (bn (o233 P) (bl (o361 P)) .nil))) (bn (o57 P) (bn (o89 P) (bn (o153 P) (bl (o281 P)) .nil) (bn (o217 P) (bl (o345 P)) .nil)) (bn (o121 P) (bn (o185 P) (bl (o313 P)) .nil) (bl (o249 P)))))) (bn (o13 P) (bn (o21 P) (bn (o37 P) (bn (o69 P) (bn (o133 P) (bl (o261 P)) .nil) (bn (o197 P) (bl (o325 P)) .nil)) (bn (o101 P) (bn (o165 P) (bl (o293 P)) .nil) (bn (o229 P) (bl (o357 P)) .nil))) (bn (o53 P) (bn (o85 P) (bn (o149 P) (bl (o277 P)) .nil) (bn (o213 P) (bl (o341 P)) .nil)) (bn (o117 P) (bn (o181 P) (bl (o309 P)) .nil) (bn (o245 P) (bl (o373 P)) .nil)))) (bn (o29 P) (bn (o45 P) (bn (o77 P) (bn (o141 P) (bl (o269 P)) .nil) (bn (o205 P) (bl (o333 P)) .nil)) (bn (o109 P) (bn (o173 P) (bl (o301 P)) .nil) (bn (o237 P) (bl (o365 P)) .nil))) (bn (o61 P) (bn (o93 P) (bn (o157 P) (bl (o285 P)) .nil) (bn (o221 P) (bl (o349 P)) .nil)) (bn (o125 P) (bn (o189 P) (bl (o317 P)) .nil) (bl (o253 P)))))))) (bn (o2_1 P) (bn (boot_o_4 P) (bn (boot_o_8 P) (bn (o16 P) (bn (o32 P) (bn (o64 P) (bn (o128 P) (bl (o256 P)) .nil) (bn (o192 P) (bl (o320 P)) .nil)) (bn (o96 P) (bn (o160 P) (bl (o288 P)) .nil) (bn (o224 P) (bl (o352 P)) .nil))) (bn (o48 P) (bn (o80 P) (bn (o144 P) (bl (o272 P)) .nil) (bn (o208 P) (bl (o336 P)) .nil)) (bn (o112 P) (bn (o176 P) (bl (o304 P)) .nil) (bn (o240 P) (bl (o368 P)) .nil)))) (bn (o24 P) (bn (o40 P) (bn (o72 P) (bn (o136 P) (bl (o264 P)) .nil) (bn (o200 P) (bl (o328 P)) .nil)) (bn (o104 P) (bn (o168 P) (bl (o296 P)) .nil) (bn (o232 P) (bl (o360 P)) .nil))) (bn (o56 P) (bn (o88 P) (bn (o152 P) (bl (o280 P)) .nil) (bn (o216 P) (bl (o344 P)) .nil)) (bn (o120 P) (bn (o184 P) (bl (o312 P)) .nil) (bn (o248 P) (bl (o376 P)) .nil))))) (bn (o12_8 P) (bn (o20 P) (bn (o36 P) (bn (o68 P) (bn (o132 P) (bl (o260 P)) .nil) (bn (o196 P) (bl (o324 P)) .nil)) (bn (o100 P) (bn (o164 P) (bl (o292 P)) .nil) (bn (o228 P) (bl (o356 P)) .nil))) (bn (o52 P) (bn (o84 P) (bn (o148 P) (bl (o276 P)) .nil) (bn (o212 P) (bl (o340 P)) .nil)) (bn (o116 P) (bn (o180 P) (bl (o308 P)) .nil) (bn (o244 P) (bl (o372 P)) .nil)))) (bn (o28 P) (bn (o44 P) (bn (o76 P) (bn (o140 P) (bl (o268 P)) .nil) (bn (o204 P) (bl (o332 P)) .nil)) (bn (o108 P) (bn (o172 P) (bl (o300 P)) .nil) (bn (o236 P) (bl (o364 P)) .nil))) (bn (o60 P) (bn (o92 P) (bn (o156 P) (bl (o284 P)) .nil) (bn (o220 P) (bl (o348 P)) .nil)) (bn (o124 P) (bn (o188 P) (bl (o316 P)) .nil) (bl (o252 P))))))) (bn (boot_o_6 P) (bn (boot_o_10 P) (bn (o18 P) (bn (o34 P) (bn (o66 P) (bn (o130 P) (bl (o258 P)) .nil) (bn (o194 P) (bl (o322 P)) .nil)) (bn (o98 P) (bn (o162 P) (bl (o290 P)) .nil) (bn (o226 P) (bl (o354 P)) .nil))) (bn (o50 P) (bn (o82 P) (bn (o146 P) (bl (o274 P)) .nil) (bn (o210 P) (bl (o338 P)) .nil)) (bn (o114 P) (bn (o178 P) (bl (o306 P)) .nil) (bn (o242 P) (bl (o370 P)) .nil)))) (bn (o26 P) (bn (o42 P) (bn (o74 P) (bn (o138 P) (bl (o266 P)) .nil) (bn (o202 P) (bl (o330 P)) .nil)) (bn (o106 P) (bn (o170 P) (bl (o298 P)) .nil) (bn (o234 P) (bl (o362 P)) .nil))) (bn (o58 P) (bn (o90 P) (bn (o154 P) (bl (o282 P)) .nil) (bn (o218 P) (bl (o346 P)) .nil)) (bn (o122 P) (bn (o186 P) (bl (o314 P)) .nil) (bl (o250 P)))))) (bn (o14 P) (bn (o22 P) (bn (o38 P) (bn (o70 P) (bn (o134 P) (bl (o262 P)) .nil) (bn (o198 P) (bl (o326 P)) .nil)) (bn (o102 P) (bn (o166 P) (bl (o294 P)) .nil) (bn (o230 P) (bl (o358 P)) .nil))) (bn (o54 P) (bn (o86 P) (bn (o150 P) (bl (o278 P)) .nil) (bn (o214 P) (bl (o342 P)) .nil)) (bn (o118 P) (bn (o182 P) (bl (o310 P)) .nil) (bn (o246 P) (bl (o374 P)) .nil)))) (bn (o30 P) (bn (o46 P) (bn (o78 P) (bn (o142 P) (bl (o270 P)) .nil) (bn (o206 P) (bl (o334 P)) .nil)) (bn (o110 P) (bn (o174 P) (bl (o302 P)) .nil) (bn (o238 P) (bl (o366 P)) .nil))) (bn (o62 P) (bn (o94 P) (bn (o158 P) (bl (o286 P)) .nil) (bn (o222 P) (bl (o350 P)) .nil)) (bn (o126 P) (bn (o190 P) (bl (o318 P)) .nil) (bl (o254 P))))))))
noncomputable def t11 (P : Params) : BT := bn (boot_o_0 P) (bn (boot_o_1 P) (bn (o3_9 P) (bn (boot_o_7 P) (bn (o15 P) (bn (o31 P) (bn (o63 P) (bn (o127 P) (bl (o255 P)) (bl (o383 P))) (bn (o191 P) (bl (o319 P)) (bl (o447 P)))) (bn (o95 P) (bn (o159 P) (bl (o287 P)) (bl (o415 P))) (bn (o223 P) (bl (o351 P)) .nil))) (bn (o47_2 P) (bn (o79 P) (bn (o143 P) (bl (o271 P)) (bl (o399 P))) (bn (o207 P) (bl (o335 P)) .nil)) (bn (o111 P) (bn (o175 P) (bl (o303 P)) (bl (o431 P))) (bn (o239 P) (bl (o367 P)) .nil)))) (bn (o23 P) (bn (o39 P) (bn (o71 P) (bn (o135 P) (bl (o263 P)) (bl (o391 P))) (bn (o199 P) (bl (o327 P)) .nil)) (bn (o103 P) (bn (o167 P) (bl (o295 P)) (bl (o423 P))) (bn (o231 P) (bl (o359 P)) .nil))) (bn (o55 P) (bn (o87 P) (bn (o151 P) (bl (o279 P)) (bl (o407 P))) (bn (o215 P) (bl (o343 P)) .nil)) (bn (o119 P) (bn (o183 P) (bl (o311 P)) (bl (o439 P))) (bn (o247 P) (bl (o375 P)) .nil))))) (bn (o11 P) (bn (o19 P) (bn (o35 P) (bn (o67 P) (bn (o131 P) (bl (o259 P)) (bl (o387 P))) (bn (o195 P) (bl (o323 P)) (bl (o451 P)))) (bn (o99 P) (bn (o163 P) (bl (o291 P)) (bl (o419 P))) (bn (o227 P) (bl (o355 P)) .nil))) (bn (o51 P) (bn (o83 P) (bn (o147 P) (bl (o275 P)) (bl (o403 P))) (bn (o211 P) (bl (o339 P)) .nil)) (bn (o115 P) (bn (o179 P) (bl (o307 P)) (bl (o435 P))) (bn (o243 P) (bl (o371 P)) .nil)))) (bn (o27 P) (bn (o43 P) (bn (o75 P) (bn (o139 P) (bl (o267 P)) (bl (o395 P))) (bn (o203 P) (bl (o331 P)) .nil)) (bn (o107 P) (bn (o171 P) (bl (o299 P)) (bl (o427 P))) (bn (o235 P) (bl (o363 P)) .nil))) (bn (o59 P) (bn (o91 P) (bn (o155 P) (bl (o283 P)) (bl (o411 P))) (bn (o219 P) (bl (o347 P)) .nil)) (bn (o123 P) (bn (o187 P) (bl (o315 P)) (bl (o443 P))) (bn (o251 P) (bl (o379 P)) .nil)))))) (bn (boot_o_5 P) (bn (boot_o_9 P) (bn (o17 P) (bn (o33 P) (bn (o65 P) (bn (o129 P) (bl (o257 P)) (bl (o385 P))) (bn (o193 P) (bl (o321 P)) (bl (o449 P)))) (bn (o97 P) (bn (o161 P) (bl (o289 P)) (bl (o417 P))) (bn (o225 P) (bl (o353 P)) .nil))) (bn (o49 P) (bn (o81 P) (bn (o145 P) (bl (o273 P)) (bl (o401 P))) (bn (o209 P) (bl (o337 P)) .nil)) (bn (o113 P) (bn (o177 P) (bl (o305 P)) (bl (o433 P))) (bn (o241 P) (bl (o369 P)) .nil)))) (bn (o25 P) (bn (o41 P) (bn (o73 P) (bn (o137 P) (bl (o265 P)) (bl (o393 P))) (bn (o201 P) (bl (o329 P)) .nil)) (bn (o105 P) (bn (o169 P) (bl (o297 P)) (bl (o425 P))) (bn (o233 P) (bl (o361 P)) .nil))) (bn (o57 P) (bn (o89 P) (bn (o153 P) (bl (o281 P)) (bl (o409 P))) (bn (o217 P) (bl (o345 P)) .nil)) (bn (o121 P) (bn (o185 P) (bl (o313 P)) (bl (o441 P))) (bn (o249 P) (bl (o377 P)) .nil))))) (bn (o13 P) (bn (o21 P) (bn (o37 P) (bn (o69 P) (bn (o133 P) (bl (o261 P)) (bl (o389 P))) (bn (o197 P) (bl (o325 P)) (bl (o453 P)))) (bn (o101 P) (bn (o165 P) (bl (o293 P)) (bl (o421 P))) (bn (o229 P) (bl (o357 P)) .nil))) (bn (o53 P) (bn (o85 P) (bn (o149 P) (bl (o277 P)) (bl (o405 P))) (bn (o213 P) (bl (o341 P)) .nil)) (bn (o117 P) (bn (o181 P) (bl (o309 P)) (bl (o437 P))) (bn (o245 P) (bl (o373 P)) .nil)))) (bn (o29 P) (bn (o45 P) (bn (o77 P) (bn (o141 P) (bl (o269 P)) (bl (o397 P))) (bn (o205 P) (bl (o333 P)) .nil)) (bn (o109 P) (bn (o173 P) (bl (o301 P)) (bl (o429 P))) (bn (o237 P) (bl (o365 P)) .nil))) (bn (o61 P) (bn (o93 P) (bn (o157 P) (bl (o285 P)) (bl (o413 P))) (bn (o221 P) (bl (o349 P)) .nil)) (bn (o125 P) (bn (o189 P) (bl (o317 P)) (bl (o445 P))) (bn (o253 P) (bl (o381 P)) .nil))))))) (bn (o2_1 P) (bn (boot_o_4 P) (bn (boot_o_8 P) (bn (o16 P) (bn (o32 P) (bn (o64 P) (bn (o128 P) (bl (o256 P)) (bl (o384 P))) (bn (o192 P) (bl (o320 P)) (bl (o448 P)))) (bn (o96 P) (bn (o160 P) (bl (o288 P)) (bl (o416 P))) (bn (o224 P) (bl (o352 P)) .nil))) (bn (o48 P) (bn (o80 P) (bn (o144 P) (bl (o272 P)) (bl (o400 P))) (bn (o208 P) (bl (o336 P)) .nil)) (bn (o112 P) (bn (o176 P) (bl (o304 P)) (bl (o432 P))) (bn (o240 P) (bl (o368 P)) .nil)))) (bn (o24 P) (bn (o40 P) (bn (o72 P) (bn (o136 P) (bl (o264 P)) (bl (o392 P))) (bn (o200 P) (bl (o328 P)) .nil)) (bn (o104 P) (bn (o168 P) (bl (o296 P)) (bl (o424 P))) (bn (o232 P) (bl (o360 P)) .nil))) (bn (o56 P) (bn (o88 P) (bn (o152 P) (bl (o280 P)) (bl (o408 P))) (bn (o216 P) (bl (o344 P)) .nil)) (bn (o120 P) (bn (o184 P) (bl (o312 P)) (bl (o440 P))) (bn (o248 P) (bl (o376 P)) .nil))))) (bn (o12_9 P) (bn (o20 P) (bn (o36 P) (bn (o68 P) (bn (o132 P) (bl (o260 P)) (bl (o388 P))) (bn (o196 P) (bl (o324 P)) (bl (o452 P)))) (bn (o100 P) (bn (o164 P) (bl (o292 P)) (bl (o420 P))) (bn (o228 P) (bl (o356 P)) .nil))) (bn (o52 P) (bn (o84 P) (bn (o148 P) (bl (o276 P)) (bl (o404 P))) (bn (o212 P) (bl (o340 P)) .nil)) (bn (o116 P) (bn (o180 P) (bl (o308 P)) (bl (o436 P))) (bn (o244 P) (bl (o372 P)) .nil)))) (bn (o28 P) (bn (o44 P) (bn (o76 P) (bn (o140 P) (bl (o268 P)) (bl (o396 P))) (bn (o204 P) (bl (o332 P)) .nil)) (bn (o108 P) (bn (o172 P) (bl (o300 P)) (bl (o428 P))) (bn (o236 P) (bl (o364 P)) .nil))) (bn (o60 P) (bn (o92 P) (bn (o156 P) (bl (o284 P)) (bl (o412 P))) (bn (o220 P) (bl (o348 P)) .nil)) (bn (o124 P) (bn (o188 P) (bl (o316 P)) (bl (o444 P))) (bn (o252 P) (bl (o380 P)) .nil)))))) (bn (boot_o_6 P) (bn (boot_o_10 P) (bn (o18 P) (bn (o34 P) (bn (o66 P) (bn (o130 P) (bl (o258 P)) (bl (o386 P))) (bn (o194 P) (bl (o322 P)) (bl (o450 P)))) (bn (o98 P) (bn (o162 P) (bl (o290 P)) (bl (o418 P))) (bn (o226 P) (bl (o354 P)) .nil))) (bn (o50 P) (bn (o82 P) (bn (o146 P) (bl (o274 P)) (bl (o402 P))) (bn (o210 P) (bl (o338 P)) .nil)) (bn (o114 P) (bn (o178 P) (bl (o306 P)) (bl (o434 P))) (bn (o242 P) (bl (o370 P)) .nil)))) (bn (o26 P) (bn (o42 P) (bn (o74 P) (bn (o138 P) (bl (o266 P)) (bl (o394 P))) (bn (o202 P) (bl (o330 P)) .nil)) (bn (o106 P) (bn (o170 P) (bl (o298 P)) (bl (o426 P))) (bn (o234 P) (bl (o362 P)) .nil))) (bn (o58 P) (bn (o90 P) (bn (o154 P) (bl (o282 P)) (bl (o410 P))) (bn (o218 P) (bl (o346 P)) .nil)) (bn (o122 P) (bn (o186 P) (bl (o314 P)) (bl (o442 P))) (bn (o250 P) (bl (o378 P)) .nil))))) (bn (o14 P) (bn (o22 P) (bn (o38 P) (bn (o70 P) (bn (o134 P) (bl (o262 P)) (bl (o390 P))) (bn (o198 P) (bl (o326 P)) (bl (o454 P)))) (bn (o102 P) (bn (o166 P) (bl (o294 P)) (bl (o422 P))) (bn (o230 P) (bl (o358 P)) .nil))) (bn (o54 P) (bn (o86 P) (bn (o150 P) (bl (o278 P)) (bl (o406 P))) (bn (o214 P) (bl (o342 P)) .nil)) (bn (o118 P) (bn (o182 P) (bl (o310 P)) (bl (o438 P))) (bn (o246 P) (bl (o374 P)) .nil)))) (bn (o30 P) (bn (o46 P) (bn (o78 P) (bn (o142 P) (bl (o270 P)) (bl (o398 P))) (bn (o206 P) (bl (o334 P)) .nil)) (bn (o110 P) (bn (o174 P) (bl (o302 P)) (bl (o430 P))) (bn (o238 P) (bl (o366 P)) .nil))) (bn (o62 P) (bn (o94 P) (bn (o158 P) (bl (o286 P)) (bl (o414 P))) (bn (o222 P) (bl (o350 P)) .nil)) (bn (o126 P) (bn (o190 P) (bl (o318 P)) (bl (o446 P))) (bn (o254 P) (bl (o382 P)) .nil)))))))
noncomputable def t12 (P : Params) : BT := bn (boot_o_0 P) (bn (boot_o_1 P) (bn (o3_10 P) (bn (boot_o_7 P) (bn (o15 P) (bn (o31 P) (bn (o63 P) (bn (o127 P) (bl (o255 P)) (bl (o383 P))) (bn (o191 P) (bl (o319 P)) (bl (o447 P)))) (bn (o95 P) (bn (o159 P) (bl (o287 P)) (bl (o415 P))) (bn (o223 P) (bl (o351 P)) .nil))) (bn (o47_2 P) (bn (o79 P) (bn (o143 P) (bl (o271 P)) (bl (o399 P))) (bn (o207 P) (bl (o335 P)) (bl (o463 P)))) (bn (o111 P) (bn (o175 P) (bl (o303 P)) (bl (o431 P))) (bn (o239 P) (bl (o367 P)) .nil)))) (bn (o23 P) (bn (o39 P) (bn (o71 P) (bn (o135 P) (bl (o263 P)) (bl (o391 P))) (bn (o199 P) (bl (o327 P)) (bl (o455 P)))) (bn (o103 P) (bn (o167 P) (bl (o295 P)) (bl (o423 P))) (bn (o231 P) (bl (o359 P)) .nil))) (bn (o55 P) (bn (o87 P) (bn (o151 P) (bl (o279 P)) (bl (o407 P))) (bn (o215 P) (bl (o343 P)) (bl (o471 P)))) (bn (o119 P) (bn (o183 P) (bl (o311 P)) (bl (o439 P))) (bn (o247 P) (bl (o375 P)) .nil))))) (bn (o11 P) (bn (o19 P) (bn (o35 P) (bn (o67 P) (bn (o131 P) (bl (o259 P)) (bl (o387 P))) (bn (o195 P) (bl (o323 P)) (bl (o451 P)))) (bn (o99 P) (bn (o163 P) (bl (o291 P)) (bl (o419 P))) (bn (o227 P) (bl (o355 P)) .nil))) (bn (o51 P) (bn (o83 P) (bn (o147 P) (bl (o275 P)) (bl (o403 P))) (bn (o211 P) (bl (o339 P)) (bl (o467 P)))) (bn (o115 P) (bn (o179 P) (bl (o307 P)) (bl (o435 P))) (bn (o243 P) (bl (o371 P)) .nil)))) (bn (o27 P) (bn (o43 P) (bn (o75 P) (bn (o139 P) (bl (o267 P)) (bl (o395 P))) (bn (o203 P) (bl (o331 P)) (bl (o459 P)))) (bn (o107 P) (bn (o171 P) (bl (o299 P)) (bl (o427 P))) (bn (o235 P) (bl (o363 P)) .nil))) (bn (o59 P) (bn (o91 P) (bn (o155 P) (bl (o283 P)) (bl (o411 P))) (bn (o219 P) (bl (o347 P)) .nil)) (bn (o123 P) (bn (o187 P) (bl (o315 P)) (bl (o443 P))) (bn (o251 P) (bl (o379 P)) .nil)))))) (bn (boot_o_5 P) (bn (boot_o_9 P) (bn (o17 P) (bn (o33 P) (bn (o65 P) (bn (o129 P) (bl (o257 P)) (bl (o385 P))) (bn (o193 P) (bl (o321 P)) (bl (o449 P)))) (bn (o97 P) (bn (o161 P) (bl (o289 P)) (bl (o417 P))) (bn (o225 P) (bl (o353 P)) .nil))) (bn (o49 P) (bn (o81 P) (bn (o145 P) (bl (o273 P)) (bl (o401 P))) (bn (o209 P) (bl (o337 P)) (bl (o465 P)))) (bn (o113 P) (bn (o177 P) (bl (o305 P)) (bl (o433 P))) (bn (o241 P) (bl (o369 P)) .nil)))) (bn (o25 P) (bn (o41 P) (bn (o73 P) (bn (o137 P) (bl (o265 P)) (bl (o393 P))) (bn (o201 P) (bl (o329 P)) (bl (o457 P)))) (bn (o105 P) (bn (o169 P) (bl (o297 P)) (bl (o425 P))) (bn (o233 P) (bl (o361 P)) .nil))) (bn (o57 P) (bn (o89 P) (bn (o153 P) (bl (o281 P)) (bl (o409 P))) (bn (o217 P) (bl (o345 P)) (bl (o473 P)))) (bn (o121 P) (bn (o185 P) (bl (o313 P)) (bl (o441 P))) (bn (o249 P) (bl (o377 P)) .nil))))) (bn (o13 P) (bn (o21 P) (bn (o37 P) (bn (o69 P) (bn (o133 P) (bl (o261 P)) (bl (o389 P))) (bn (o197 P) (bl (o325 P)) (bl (o453 P)))) (bn (o101 P) (bn (o165 P) (bl (o293 P)) (bl (o421 P))) (bn (o229 P) (bl (o357 P)) .nil))) (bn (o53 P) (bn (o85 P) (bn (o149 P) (bl (o277 P)) (bl (o405 P))) (bn (o213 P) (bl (o341 P)) (bl (o469 P)))) (bn (o117 P) (bn (o181 P) (bl (o309 P)) (bl (o437 P))) (bn (o245 P) (bl (o373 P)) .nil)))) (bn (o29 P) (bn (o45 P) (bn (o77 P) (bn (o141 P) (bl (o269 P)) (bl (o397 P))) (bn (o205 P) (bl (o333 P)) (bl (o461 P)))) (bn (o109 P) (bn (o173 P) (bl (o301 P)) (bl (o429 P))) (bn (o237 P) (bl (o365 P)) .nil))) (bn (o61 P) (bn (o93 P) (bn (o157 P) (bl (o285 P)) (bl (o413 P))) (bn (o221 P) (bl (o349 P)) .nil)) (bn (o125 P) (bn (o189 P) (bl (o317 P)) (bl (o445 P))) (bn (o253 P) (bl (o381 P)) .nil))))))) (bn (o2_1 P) (bn (boot_o_4 P) (bn (boot_o_8 P) (bn (o16 P) (bn (o32 P) (bn (o64 P) (bn (o128 P) (bl (o256 P)) (bl (o384 P))) (bn (o192 P) (bl (o320 P)) (bl (o448 P)))) (bn (o96 P) (bn (o160 P) (bl (o288 P)) (bl (o416 P))) (bn (o224 P) (bl (o352 P)) .nil))) (bn (o48 P) (bn (o80 P) (bn (o144 P) (bl (o272 P)) (bl (o400 P))) (bn (o208 P) (bl (o336 P)) (bl (o464 P)))) (bn (o112 P) (bn (o176 P) (bl (o304 P)) (bl (o432 P))) (bn (o240 P) (bl (o368 P)) .nil)))) (bn (o24 P) (bn (o40 P) (bn (o72 P) (bn (o136 P) (bl (o264 P)) (bl (o392 P))) (bn (o200 P) (bl (o328 P)) (bl (o456 P)))) (bn (o104 P) (bn (o168 P) (bl (o296 P)) (bl (o424 P))) (bn (o232 P) (bl (o360 P)) .nil))) (bn (o56 P) (bn (o88 P) (bn (o152 P) (bl (o280 P)) (bl (o408 P))) (bn (o216 P) (bl (o344 P)) (bl (o472 P)))) (bn (o120 P) (bn (o184 P) (bl (o312 P)) (bl (o440 P))) (bn (o248 P) (bl (o376 P)) .nil))))) (bn (o12_10 P) (bn (o20 P) (bn (o36 P) (bn (o68 P) (bn (o132 P) (bl (o260 P)) (bl (o388 P))) (bn (o196 P) (bl (o324 P)) (bl (o452 P)))) (bn (o100 P) (bn (o164 P) (bl (o292 P)) (bl (o420 P))) (bn (o228 P) (bl (o356 P)) .nil))) (bn (o52 P) (bn (o84 P) (bn (o148 P) (bl (o276 P)) (bl (o404 P))) (bn (o212 P) (bl (o340 P)) (bl (o468 P)))) (bn (o116 P) (bn (o180 P) (bl (o308 P)) (bl (o436 P))) (bn (o244 P) (bl (o372 P)) .nil)))) (bn (o28 P) (bn (o44 P) (bn (o76 P) (bn (o140 P) (bl (o268 P)) (bl (o396 P))) (bn (o204 P) (bl (o332 P)) (bl (o460 P)))) (bn (o108 P) (bn (o172 P) (bl (o300 P)) (bl (o428 P))) (bn (o236 P) (bl (o364 P)) .nil))) (bn (o60 P) (bn (o92 P) (bn (o156 P) (bl (o284 P)) (bl (o412 P))) (bn (o220 P) (bl (o348 P)) .nil)) (bn (o124 P) (bn (o188 P) (bl (o316 P)) (bl (o444 P))) (bn (o252 P) (bl (o380 P)) .nil)))))) (bn (boot_o_6 P) (bn (boot_o_10 P) (bn (o18 P) (bn (o34 P) (bn (o66 P) (bn (o130 P) (bl (o258 P)) (bl (o386 P))) (bn (o194 P) (bl (o322 P)) (bl (o450 P)))) (bn (o98 P) (bn (o162 P) (bl (o290 P)) (bl (o418 P))) (bn (o226 P) (bl (o354 P)) .nil))) (bn (o50 P) (bn (o82 P) (bn (o146 P) (bl (o274 P)) (bl (o402 P))) (bn (o210 P) (bl (o338 P)) (bl (o466 P)))) (bn (o114 P) (bn (o178 P) (bl (o306 P)) (bl (o434 P))) (bn (o242 P) (bl (o370 P)) .nil)))) (bn (o26 P) (bn (o42 P) (bn (o74 P) (bn (o138 P) (bl (o266 P)) (bl (o394 P))) (bn (o202 P) (bl (o330 P)) (bl (o458 P)))) (bn (o106 P) (bn (o170 P) (bl (o298 P)) (bl (o426 P))) (bn (o234 P) (bl (o362 P)) .nil))) (bn (o58 P) (bn (o90 P) (bn (o154 P) (bl (o282 P)) (bl (o410 P))) (bn (o218 P) (bl (o346 P)) .nil)) (bn (o122 P) (bn (o186 P) (bl (o314 P)) (bl (o442 P))) (bn (o250 P) (bl (o378 P)) .nil))))) (bn (o14 P) (bn (o22 P) (bn (o38 P) (bn (o70 P) (bn (o134 P) (bl (o262 P)) (bl (o390 P))) (bn (o198 P) (bl (o326 P)) (bl (o454 P)))) (bn (o102 P) (bn (o166 P) (bl (o294 P)) (bl (o422 P))) (bn (o230 P) (bl (o358 P)) .nil))) (bn (o54 P) (bn (o86 P) (bn (o150 P) (bl (o278 P)) (bl (o406 P))) (bn (o214 P) (bl (o342 P)) (bl (o470 P)))) (bn (o118 P) (bn (o182 P) (bl (o310 P)) (bl (o438 P))) (bn (o246 P) (bl (o374 P)) .nil)))) (bn (o30 P) (bn (o46 P) (bn (o78 P) (bn (o142 P) (bl (o270 P)) (bl (o398 P))) (bn (o206 P) (bl (o334 P)) (bl (o462 P)))) (bn (o110 P) (bn (o174 P) (bl (o302 P)) (bl (o430 P))) (bn (o238 P) (bl (o366 P)) .nil))) (bn (o62 P) (bn (o94 P) (bn (o158 P) (bl (o286 P)) (bl (o414 P))) (bn (o222 P) (bl (o350 P)) .nil)) (bn (o126 P) (bn (o190 P) (bl (o318 P)) (bl (o446 P))) (bn (o254 P) (bl (o382 P)) .nil)))))))
noncomputable def t13 (P : Params) : BT := bn (boot_o_0 P) (bn (boot_o_1 P) (bn (o3_11 P) (bn (boot_o_7 P) (bn (o15 P) (bn (o31 P) (bn (o63 P) (bn (o127 P) (bn (o255 P) (bl (o511 P)) .nil) (bn (o383 P) (bl (o639 P)) .nil)) (bn (o191 P) (bn (o319 P) (bl (o575 P)) .nil) (bl (o447 P)))) (bn (o95 P) (bn (o159 P) (bn (o287 P) (bl (o543 P)) .nil) (bl (o415 P))) (bn (o223 P) (bn (o351 P) (bl (o607 P)) .nil) (bl (o479 P))))) (bn (o47_2 P) (bn (o79 P) (bn (o143 P) (bn (o271 P) (bl (o527 P)) .nil) (bl (o399 P))) (bn (o207 P) (bn (o335 P) (bl (o591 P)) .nil) (bl (o463 P)))) (bn (o111 P) (bn (o175 P) (bn (o303 P) (bl (o559 P)) .nil) (bl (o431 P))) (bn (o239 P) (bn (o367 P) (bl (o623 P)) .nil) (bl (o495 P)))))) (bn (o23 P) (bn (o39 P) (bn (o71 P) (bn (o135 P) (bn (o263 P) (bl (o519 P)) .nil) (bl (o391 P))) (bn (o199 P) (bn (o327 P) (bl (o583 P)) .nil) (bl (o455 P)))) (bn (o103 P) (bn (o167 P) (bn (o295 P) (bl (o551 P)) .nil) (bl (o423 P))) (bn (o231 P) (bn (o359 P) (bl (o615 P)) .nil) (bl (o487 P))))) (bn (o55 P) (bn (o87 P) (bn (o151 P) (bn (o279 P) (bl (o535 P)) .nil) (bl (o407 P))) (bn (o215 P) (bn (o343 P) (bl (o599 P)) .nil) (bl (o471 P)))) (bn (o119 P) (bn (o183 P) (bn (o311 P) (bl (o567 P)) .nil) (bl (o439 P))) (bn (o247 P) (bn (o375 P) (bl (o631 P)) .nil) (bl (o503 P))))))) (bn (o11 P) (bn (o19 P) (bn (o35 P) (bn (o67 P) (bn (o131 P) (bn (o259 P) (bl (o515 P)) .nil) (bn (o387 P) (bl (o643 P)) .nil)) (bn (o195 P) (bn (o323 P) (bl (o579 P)) .nil) (bl (o451 P)))) (bn (o99 P) (bn (o163 P) (bn (o291 P) (bl (o547 P)) .nil) (bl (o419 P))) (bn (o227 P) (bn (o355 P) (bl (o611 P)) .nil) (bl (o483 P))))) (bn (o51 P) (bn (o83 P) (bn (o147 P) (bn (o275 P) (bl (o531 P)) .nil) (bl (o403 P))) (bn (o211 P) (bn (o339 P) (bl (o595 P)) .nil) (bl (o467 P)))) (bn (o115 P) (bn (o179 P) (bn (o307 P) (bl (o563 P)) .nil) (bl (o435 P))) (bn (o243 P) (bn (o371 P) (bl (o627 P)) .nil) (bl (o499 P)))))) (bn (o27 P) (bn (o43 P) (bn (o75 P) (bn (o139 P) (bn (o267 P) (bl (o523 P)) .nil) (bl (o395 P))) (bn (o203 P) (bn (o331 P) (bl (o587 P)) .nil) (bl (o459 P)))) (bn (o107 P) (bn (o171 P) (bn (o299 P) (bl (o555 P)) .nil) (bl (o427 P))) (bn (o235 P) (bn (o363 P) (bl (o619 P)) .nil) (bl (o491 P))))) (bn (o59 P) (bn (o91 P) (bn (o155 P) (bn (o283 P) (bl (o539 P)) .nil) (bl (o411 P))) (bn (o219 P) (bn (o347 P) (bl (o603 P)) .nil) (bl (o475 P)))) (bn (o123 P) (bn (o187 P) (bn (o315 P) (bl (o571 P)) .nil) (bl (o443 P))) (bn (o251 P) (bn (o379 P) (bl (o635 P)) .nil) (bl (o507 P)))))))) (bn (boot_o_5 P) (bn (boot_o_9 P) (bn (o17 P) (bn (o33 P) (bn (o65 P) (bn (o129 P) (bn (o257 P) (bl (o513 P)) .nil) (bn (o385 P) (bl (o641 P)) .nil)) (bn (o193 P) (bn (o321 P) (bl (o577 P)) .nil) (bl (o449 P)))) (bn (o97 P) (bn (o161 P) (bn (o289 P) (bl (o545 P)) .nil) (bl (o417 P))) (bn (o225 P) (bn (o353 P) (bl (o609 P)) .nil) (bl (o481 P))))) (bn (o49 P) (bn (o81 P) (bn (o145 P) (bn (o273 P) (bl (o529 P)) .nil) (bl (o401 P))) (bn (o209 P) (bn (o337 P) (bl (o593 P)) .nil) (bl (o465 P)))) (bn (o113 P) (bn (o177 P) (bn (o305 P) (bl (o561 P)) .nil) (bl (o433 P))) (bn (o241 P) (bn (o369 P) (bl (o625 P)) .nil) (bl (o497 P)))))) (bn (o25 P) (bn (o41 P) (bn (o73 P) (bn (o137 P) (bn (o265 P) (bl (o521 P)) .nil) (bl (o393 P))) (bn (o201 P) (bn (o329 P) (bl (o585 P)) .nil) (bl (o457 P)))) (bn (o105 P) (bn (o169 P) (bn (o297 P) (bl (o553 P)) .nil) (bl (o425 P))) (bn (o233 P) (bn (o361 P) (bl (o617 P)) .nil) (bl (o489 P))))) (bn (o57 P) (bn (o89 P) (bn (o153 P) (bn (o281 P) (bl (o537 P)) .nil) (bl (o409 P))) (bn (o217 P) (bn (o345 P) (bl (o601 P)) .nil) (bl (o473 P)))) (bn (o121 P) (bn (o185 P) (bn (o313 P) (bl (o569 P)) .nil) (bl (o441 P))) (bn (o249 P) (bn (o377 P) (bl (o633 P)) .nil) (bl (o505 P))))))) (bn (o13 P) (bn (o21 P) (bn (o37 P) (bn (o69 P) (bn (o133 P) (bn (o261 P) (bl (o517 P)) .nil) (bn (o389 P) (bl (o645 P)) .nil)) (bn (o197 P) (bn (o325 P) (bl (o581 P)) .nil) (bl (o453 P)))) (bn (o101 P) (bn (o165 P) (bn (o293 P) (bl (o549 P)) .nil) (bl (o421 P))) (bn (o229 P) (bn (o357 P) (bl (o613 P)) .nil) (bl (o485 P))))) (bn (o53 P) (bn (o85 P) (bn (o149 P) (bn (o277 P) (bl (o533 P)) .nil) (bl (o405 P))) (bn (o213 P) (bn (o341 P) (bl (o597 P)) .nil) (bl (o469 P)))) (bn (o117 P) (bn (o181 P) (bn (o309 P) (bl (o565 P)) .nil) (bl (o437 P))) (bn (o245 P) (bn (o373 P) (bl (o629 P)) .nil) (bl (o501 P)))))) (bn (o29 P) (bn (o45 P) (bn (o77 P) (bn (o141 P) (bn (o269 P) (bl (o525 P)) .nil) (bl (o397 P))) (bn (o205 P) (bn (o333 P) (bl (o589 P)) .nil) (bl (o461 P)))) (bn (o109 P) (bn (o173 P) (bn (o301 P) (bl (o557 P)) .nil) (bl (o429 P))) (bn (o237 P) (bn (o365 P) (bl (o621 P)) .nil) (bl (o493 P))))) (bn (o61 P) (bn (o93 P) (bn (o157 P) (bn (o285 P) (bl (o541 P)) .nil) (bl (o413 P))) (bn (o221 P) (bn (o349 P) (bl (o605 P)) .nil) (bl (o477 P)))) (bn (o125 P) (bn (o189 P) (bn (o317 P) (bl (o573 P)) .nil) (bl (o445 P))) (bn (o253 P) (bn (o381 P) (bl (o637 P)) .nil) (bl (o509 P))))))))) (bn (o2_1 P) (bn (boot_o_4 P) (bn (boot_o_8 P) (bn (o16 P) (bn (o32 P) (bn (o64 P) (bn (o128 P) (bn (o256 P) (bl (o512 P)) .nil) (bn (o384 P) (bl (o640 P)) .nil)) (bn (o192 P) (bn (o320 P) (bl (o576 P)) .nil) (bl (o448 P)))) (bn (o96 P) (bn (o160 P) (bn (o288 P) (bl (o544 P)) .nil) (bl (o416 P))) (bn (o224 P) (bn (o352 P) (bl (o608 P)) .nil) (bl (o480 P))))) (bn (o48 P) (bn (o80 P) (bn (o144 P) (bn (o272 P) (bl (o528 P)) .nil) (bl (o400 P))) (bn (o208 P) (bn (o336 P) (bl (o592 P)) .nil) (bl (o464 P)))) (bn (o112 P) (bn (o176 P) (bn (o304 P) (bl (o560 P)) .nil) (bl (o432 P))) (bn (o240 P) (bn (o368 P) (bl (o624 P)) .nil) (bl (o496 P)))))) (bn (o24 P) (bn (o40 P) (bn (o72 P) (bn (o136 P) (bn (o264 P) (bl (o520 P)) .nil) (bl (o392 P))) (bn (o200 P) (bn (o328 P) (bl (o584 P)) .nil) (bl (o456 P)))) (bn (o104 P) (bn (o168 P) (bn (o296 P) (bl (o552 P)) .nil) (bl (o424 P))) (bn (o232 P) (bn (o360 P) (bl (o616 P)) .nil) (bl (o488 P))))) (bn (o56 P) (bn (o88 P) (bn (o152 P) (bn (o280 P) (bl (o536 P)) .nil) (bl (o408 P))) (bn (o216 P) (bn (o344 P) (bl (o600 P)) .nil) (bl (o472 P)))) (bn (o120 P) (bn (o184 P) (bn (o312 P) (bl (o568 P)) .nil) (bl (o440 P))) (bn (o248 P) (bn (o376 P) (bl (o632 P)) .nil) (bl (o504 P))))))) (bn (o12_11 P) (bn (o20 P) (bn (o36 P) (bn (o68 P) (bn (o132 P) (bn (o260 P) (bl (o516 P)) .nil) (bn (o388 P) (bl (o644 P)) .nil)) (bn (o196 P) (bn (o324 P) (bl (o580 P)) .nil) (bl (o452 P)))) (bn (o100 P) (bn (o164 P) (bn (o292 P) (bl (o548 P)) .nil) (bl (o420 P))) (bn (o228 P) (bn (o356 P) (bl (o612 P)) .nil) (bl (o484 P))))) (bn (o52 P) (bn (o84 P) (bn (o148 P) (bn (o276 P) (bl (o532 P)) .nil) (bl (o404 P))) (bn (o212 P) (bn (o340 P) (bl (o596 P)) .nil) (bl (o468 P)))) (bn (o116 P) (bn (o180 P) (bn (o308 P) (bl (o564 P)) .nil) (bl (o436 P))) (bn (o244 P) (bn (o372 P) (bl (o628 P)) .nil) (bl (o500 P)))))) (bn (o28 P) (bn (o44 P) (bn (o76 P) (bn (o140 P) (bn (o268 P) (bl (o524 P)) .nil) (bl (o396 P))) (bn (o204 P) (bn (o332 P) (bl (o588 P)) .nil) (bl (o460 P)))) (bn (o108 P) (bn (o172 P) (bn (o300 P) (bl (o556 P)) .nil) (bl (o428 P))) (bn (o236 P) (bn (o364 P) (bl (o620 P)) .nil) (bl (o492 P))))) (bn (o60 P) (bn (o92 P) (bn (o156 P) (bn (o284 P) (bl (o540 P)) .nil) (bl (o412 P))) (bn (o220 P) (bn (o348 P) (bl (o604 P)) .nil) (bl (o476 P)))) (bn (o124 P) (bn (o188 P) (bn (o316 P) (bl (o572 P)) .nil) (bl (o444 P))) (bn (o252 P) (bn (o380 P) (bl (o636 P)) .nil) (bl (o508 P)))))))) (bn (boot_o_6 P) (bn (boot_o_10 P) (bn (o18 P) (bn (o34 P) (bn (o66 P) (bn (o130 P) (bn (o258 P) (bl (o514 P)) .nil) (bn (o386 P) (bl (o642 P)) .nil)) (bn (o194 P) (bn (o322 P) (bl (o578 P)) .nil) (bl (o450 P)))) (bn (o98 P) (bn (o162 P) (bn (o290 P) (bl (o546 P)) .nil) (bl (o418 P))) (bn (o226 P) (bn (o354 P) (bl (o610 P)) .nil) (bl (o482 P))))) (bn (o50 P) (bn (o82 P) (bn (o146 P) (bn (o274 P) (bl (o530 P)) .nil) (bl (o402 P))) (bn (o210 P) (bn (o338 P) (bl (o594 P)) .nil) (bl (o466 P)))) (bn (o114 P) (bn (o178 P) (bn (o306 P) (bl (o562 P)) .nil) (bl (o434 P))) (bn (o242 P) (bn (o370 P) (bl (o626 P)) .nil) (bl (o498 P)))))) (bn (o26 P) (bn (o42 P) (bn (o74 P) (bn (o138 P) (bn (o266 P) (bl (o522 P)) .nil) (bl (o394 P))) (bn (o202 P) (bn (o330 P) (bl (o586 P)) .nil) (bl (o458 P)))) (bn (o106 P) (bn (o170 P) (bn (o298 P) (bl (o554 P)) .nil) (bl (o426 P))) (bn (o234 P) (bn (o362 P) (bl (o618 P)) .nil) (bl (o490 P))))) (bn (o58 P) (bn (o90 P) (bn (o154 P) (bn (o282 P) (bl (o538 P)) .nil) (bl (o410 P))) (bn (o218 P) (bn (o346 P) (bl (o602 P)) .nil) (bl (o474 P)))) (bn (o122 P) (bn (o186 P) (bn (o314 P) (bl (o570 P)) .nil) (bl (o442 P))) (bn (o250 P) (bn (o378 P) (bl (o634 P)) .nil) (bl (o506 P))))))) (bn (o14 P) (bn (o22 P) (bn (o38 P) (bn (o70 P) (bn (o134 P) (bn (o262 P) (bl (o518 P)) .nil) (bn (o390 P) (bl (o646 P)) .nil)) (bn (o198 P) (bn (o326 P) (bl (o582 P)) .nil) (bl (o454 P)))) (bn (o102 P) (bn (o166 P) (bn (o294 P) (bl (o550 P)) .nil) (bl (o422 P))) (bn (o230 P) (bn (o358 P) (bl (o614 P)) .nil) (bl (o486 P))))) (bn (o54 P) (bn (o86 P) (bn (o150 P) (bn (o278 P) (bl (o534 P)) .nil) (bl (o406 P))) (bn (o214 P) (bn (o342 P) (bl (o598 P)) .nil) (bl (o470 P)))) (bn (o118 P) (bn (o182 P) (bn (o310 P) (bl (o566 P)) .nil) (bl (o438 P))) (bn (o246 P) (bn (o374 P) (bl (o630 P)) .nil) (bl (o502 P)))))) (bn (o30 P) (bn (o46 P) (bn (o78 P) (bn (o142 P) (bn (o270 P) (bl (o526 P)) .nil) (bl (o398 P))) (bn (o206 P) (bn (o334 P) (bl (o590 P)) .nil) (bl (o462 P)))) (bn (o110 P) (bn (o174 P) (bn (o302 P) (bl (o558 P)) .nil) (bl (o430 P))) (bn (o238 P) (bn (o366 P) (bl (o622 P)) .nil) (bl (o494 P))))) (bn (o62 P) (bn (o94 P) (bn (o158 P) (bn (o286 P) (bl (o542 P)) .nil) (bl (o414 P))) (bn (o222 P) (bn (o350 P) (bl (o606 P)) .nil) (bl (o478 P)))) (bn (o126 P) (bn (o190 P) (bn (o318 P) (bl (o574 P)) .nil) (bl (o446 P))) (bn (o254 P) (bn (o382 P) (bl (o638 P)) .nil) (bl (o510 P)))))))))
noncomputable def t14 (P : Params) : BT := bn (boot_o_0 P) (bn (boot_o_1 P) (bn (o3_12 P) (bn (boot_o_7 P) (bn (o15 P) (bn (o31 P) (bn (o63 P) (bn (o127 P) (bn (o255 P) (bl (o511 P)) .nil) (bn (o383 P) (bl (o639 P)) .nil)) (bn (o191 P) (bn (o319 P) (bl (o575 P)) .nil) (bl (o447 P)))) (bn (o95 P) (bn (o159 P) (bn (o287 P) (bl (o543 P)) .nil) (bn (o415 P) (bl (o671 P)) .nil)) (bn (o223 P) (bn (o351 P) (bl (o607 P)) .nil) (bl (o479 P))))) (bn (o47_2 P) (bn (o79 P) (bn (o143 P) (bn (o271 P) (bl (o527 P)) .nil) (bn (o399 P) (bl (o655 P)) .nil)) (bn (o207 P) (bn (o335 P) (bl (o591 P)) .nil) (bl (o463 P)))) (bn (o111 P) (bn (o175 P) (bn (o303 P) (bl (o559 P)) .nil) (bn (o431 P) (bl (o687 P)) .nil)) (bn (o239 P) (bn (o367 P) (bl (o623 P)) .nil) (bl (o495 P)))))) (bn (o23 P) (bn (o39 P) (bn (o71 P) (bn (o135 P) (bn (o263 P) (bl (o519 P)) .nil) (bn (o391 P) (bl (o647 P)) .nil)) (bn (o199 P) (bn (o327 P) (bl (o583 P)) .nil) (bl (o455 P)))) (bn (o103 P) (bn (o167 P) (bn (o295 P) (bl (o551 P)) .nil) (bn (o423 P) (bl (o679 P)) .nil)) (bn (o231 P) (bn (o359 P) (bl (o615 P)) .nil) (bl (o487 P))))) (bn (o55 P) (bn (o87 P) (bn (o151 P) (bn (o279 P) (bl (o535 P)) .nil) (bn (o407 P) (bl (o663 P)) .nil)) (bn (o215 P) (bn (o343 P) (bl (o599 P)) .nil) (bl (o471 P)))) (bn (o119 P) (bn (o183 P) (bn (o311 P) (bl (o567 P)) .nil) (bn (o439 P) (bl (o695 P)) .nil)) (bn (o247 P) (bn (o375 P) (bl (o631 P)) .nil) (bl (o503 P))))))) (bn (o11 P) (bn (o19 P) (bn (o35 P) (bn (o67 P) (bn (o131 P) (bn (o259 P) (bl (o515 P)) .nil) (bn (o387 P) (bl (o643 P)) .nil)) (bn (o195 P) (bn (o323 P) (bl (o579 P)) .nil) (bl (o451 P)))) (bn (o99 P) (bn (o163 P) (bn (o291 P) (bl (o547 P)) .nil) (bn (o419 P) (bl (o675 P)) .nil)) (bn (o227 P) (bn (o355 P) (bl (o611 P)) .nil) (bl (o483 P))))) (bn (o51 P) (bn (o83 P) (bn (o147 P) (bn (o275 P) (bl (o531 P)) .nil) (bn (o403 P) (bl (o659 P)) .nil)) (bn (o211 P) (bn (o339 P) (bl (o595 P)) .nil) (bl (o467 P)))) (bn (o115 P) (bn (o179 P) (bn (o307 P) (bl (o563 P)) .nil) (bn (o435 P) (bl (o691 P)) .nil)) (bn (o243 P) (bn (o371 P) (bl (o627 P)) .nil) (bl (o499 P)))))) (bn (o27 P) (bn (o43 P) (bn (o75 P) (bn (o139 P) (bn (o267 P) (bl (o523 P)) .nil) (bn (o395 P) (bl (o651 P)) .nil)) (bn (o203 P) (bn (o331 P) (bl (o587 P)) .nil) (bl (o459 P)))) (bn (o107 P) (bn (o171 P) (bn (o299 P) (bl (o555 P)) .nil) (bn (o427 P) (bl (o683 P)) .nil)) (bn (o235 P) (bn (o363 P) (bl (o619 P)) .nil) (bl (o491 P))))) (bn (o59 P) (bn (o91 P) (bn (o155 P) (bn (o283 P) (bl (o539 P)) .nil) (bn (o411 P) (bl (o667 P)) .nil)) (bn (o219 P) (bn (o347 P) (bl (o603 P)) .nil) (bl (o475 P)))) (bn (o123 P) (bn (o187 P) (bn (o315 P) (bl (o571 P)) .nil) (bn (o443 P) (bl (o699 P)) .nil)) (bn (o251 P) (bn (o379 P) (bl (o635 P)) .nil) (bl (o507 P)))))))) (bn (boot_o_5 P) (bn (boot_o_9 P) (bn (o17 P) (bn (o33 P) (bn (o65 P) (bn (o129 P) (bn (o257 P) (bl (o513 P)) .nil) (bn (o385 P) (bl (o641 P)) .nil)) (bn (o193 P) (bn (o321 P) (bl (o577 P)) .nil) (bl (o449 P)))) (bn (o97 P) (bn (o161 P) (bn (o289 P) (bl (o545 P)) .nil) (bn (o417 P) (bl (o673 P)) .nil)) (bn (o225 P) (bn (o353 P) (bl (o609 P)) .nil) (bl (o481 P))))) (bn (o49 P) (bn (o81 P) (bn (o145 P) (bn (o273 P) (bl (o529 P)) .nil) (bn (o401 P) (bl (o657 P)) .nil)) (bn (o209 P) (bn (o337 P) (bl (o593 P)) .nil) (bl (o465 P)))) (bn (o113 P) (bn (o177 P) (bn (o305 P) (bl (o561 P)) .nil) (bn (o433 P) (bl (o689 P)) .nil)) (bn (o241 P) (bn (o369 P) (bl (o625 P)) .nil) (bl (o497 P)))))) (bn (o25 P) (bn (o41 P) (bn (o73 P) (bn (o137 P) (bn (o265 P) (bl (o521 P)) .nil) (bn (o393 P) (bl (o649 P)) .nil)) (bn (o201 P) (bn (o329 P) (bl (o585 P)) .nil) (bl (o457 P)))) (bn (o105 P) (bn (o169 P) (bn (o297 P) (bl (o553 P)) .nil) (bn (o425 P) (bl (o681 P)) .nil)) (bn (o233 P) (bn (o361 P) (bl (o617 P)) .nil) (bl (o489 P))))) (bn (o57 P) (bn (o89 P) (bn (o153 P) (bn (o281 P) (bl (o537 P)) .nil) (bn (o409 P) (bl (o665 P)) .nil)) (bn (o217 P) (bn (o345 P) (bl (o601 P)) .nil) (bl (o473 P)))) (bn (o121 P) (bn (o185 P) (bn (o313 P) (bl (o569 P)) .nil) (bn (o441 P) (bl (o697 P)) .nil)) (bn (o249 P) (bn (o377 P) (bl (o633 P)) .nil) (bl (o505 P))))))) (bn (o13 P) (bn (o21 P) (bn (o37 P) (bn (o69 P) (bn (o133 P) (bn (o261 P) (bl (o517 P)) .nil) (bn (o389 P) (bl (o645 P)) .nil)) (bn (o197 P) (bn (o325 P) (bl (o581 P)) .nil) (bl (o453 P)))) (bn (o101 P) (bn (o165 P) (bn (o293 P) (bl (o549 P)) .nil) (bn (o421 P) (bl (o677 P)) .nil)) (bn (o229 P) (bn (o357 P) (bl (o613 P)) .nil) (bl (o485 P))))) (bn (o53 P) (bn (o85 P) (bn (o149 P) (bn (o277 P) (bl (o533 P)) .nil) (bn (o405 P) (bl (o661 P)) .nil)) (bn (o213 P) (bn (o341 P) (bl (o597 P)) .nil) (bl (o469 P)))) (bn (o117 P) (bn (o181 P) (bn (o309 P) (bl (o565 P)) .nil) (bn (o437 P) (bl (o693 P)) .nil)) (bn (o245 P) (bn (o373 P) (bl (o629 P)) .nil) (bl (o501 P)))))) (bn (o29 P) (bn (o45 P) (bn (o77 P) (bn (o141 P) (bn (o269 P) (bl (o525 P)) .nil) (bn (o397 P) (bl (o653 P)) .nil)) (bn (o205 P) (bn (o333 P) (bl (o589 P)) .nil) (bl (o461 P)))) (bn (o109 P) (bn (o173 P) (bn (o301 P) (bl (o557 P)) .nil) (bn (o429 P) (bl (o685 P)) .nil)) (bn (o237 P) (bn (o365 P) (bl (o621 P)) .nil) (bl (o493 P))))) (bn (o61 P) (bn (o93 P) (bn (o157 P) (bn (o285 P) (bl (o541 P)) .nil) (bn (o413 P) (bl (o669 P)) .nil)) (bn (o221 P) (bn (o349 P) (bl (o605 P)) .nil) (bl (o477 P)))) (bn (o125 P) (bn (o189 P) (bn (o317 P) (bl (o573 P)) .nil) (bl (o445 P))) (bn (o253 P) (bn (o381 P) (bl (o637 P)) .nil) (bl (o509 P))))))))) (bn (o2_1 P) (bn (boot_o_4 P) (bn (boot_o_8 P) (bn (o16 P) (bn (o32 P) (bn (o64 P) (bn (o128 P) (bn (o256 P) (bl (o512 P)) .nil) (bn (o384 P) (bl (o640 P)) .nil)) (bn (o192 P) (bn (o320 P) (bl (o576 P)) .nil) (bl (o448 P)))) (bn (o96 P) (bn (o160 P) (bn (o288 P) (bl (o544 P)) .nil) (bn (o416 P) (bl (o672 P)) .nil)) (bn (o224 P) (bn (o352 P) (bl (o608 P)) .nil) (bl (o480 P))))) (bn (o48 P) (bn (o80 P) (bn (o144 P) (bn (o272 P) (bl (o528 P)) .nil) (bn (o400 P) (bl (o656 P)) .nil)) (bn (o208 P) (bn (o336 P) (bl (o592 P)) .nil) (bl (o464 P)))) (bn (o112 P) (bn (o176 P) (bn (o304 P) (bl (o560 P)) .nil) (bn (o432 P) (bl (o688 P)) .nil)) (bn (o240 P) (bn (o368 P) (bl (o624 P)) .nil) (bl (o496 P)))))) (bn (o24 P) (bn (o40 P) (bn (o72 P) (bn (o136 P) (bn (o264 P) (bl (o520 P)) .nil) (bn (o392 P) (bl (o648 P)) .nil)) (bn (o200 P) (bn (o328 P) (bl (o584 P)) .nil) (bl (o456 P)))) (bn (o104 P) (bn (o168 P) (bn (o296 P) (bl (o552 P)) .nil) (bn (o424 P) (bl (o680 P)) .nil)) (bn (o232 P) (bn (o360 P) (bl (o616 P)) .nil) (bl (o488 P))))) (bn (o56 P) (bn (o88 P) (bn (o152 P) (bn (o280 P) (bl (o536 P)) .nil) (bn (o408 P) (bl (o664 P)) .nil)) (bn (o216 P) (bn (o344 P) (bl (o600 P)) .nil) (bl (o472 P)))) (bn (o120 P) (bn (o184 P) (bn (o312 P) (bl (o568 P)) .nil) (bn (o440 P) (bl (o696 P)) .nil)) (bn (o248 P) (bn (o376 P) (bl (o632 P)) .nil) (bl (o504 P))))))) (bn (o12_12 P) (bn (o20 P) (bn (o36 P) (bn (o68 P) (bn (o132 P) (bn (o260 P) (bl (o516 P)) .nil) (bn (o388 P) (bl (o644 P)) .nil)) (bn (o196 P) (bn (o324 P) (bl (o580 P)) .nil) (bl (o452 P)))) (bn (o100 P) (bn (o164 P) (bn (o292 P) (bl (o548 P)) .nil) (bn (o420 P) (bl (o676 P)) .nil)) (bn (o228 P) (bn (o356 P) (bl (o612 P)) .nil) (bl (o484 P))))) (bn (o52 P) (bn (o84 P) (bn (o148 P) (bn (o276 P) (bl (o532 P)) .nil) (bn (o404 P) (bl (o660 P)) .nil)) (bn (o212 P) (bn (o340 P) (bl (o596 P)) .nil) (bl (o468 P)))) (bn (o116 P) (bn (o180 P) (bn (o308 P) (bl (o564 P)) .nil) (bn (o436 P) (bl (o692 P)) .nil)) (bn (o244 P) (bn (o372 P) (bl (o628 P)) .nil) (bl (o500 P)))))) (bn (o28 P) (bn (o44 P) (bn (o76 P) (bn (o140 P) (bn (o268 P) (bl (o524 P)) .nil) (bn (o396 P) (bl (o652 P)) .nil)) (bn (o204 P) (bn (o332 P) (bl (o588 P)) .nil) (bl (o460 P)))) (bn (o108 P) (bn (o172 P) (bn (o300 P) (bl (o556 P)) .nil) (bn (o428 P) (bl (o684 P)) .nil)) (bn (o236 P) (bn (o364 P) (bl (o620 P)) .nil) (bl (o492 P))))) (bn (o60 P) (bn (o92 P) (bn (o156 P) (bn (o284 P) (bl (o540 P)) .nil) (bn (o412 P) (bl (o668 P)) .nil)) (bn (o220 P) (bn (o348 P) (bl (o604 P)) .nil) (bl (o476 P)))) (bn (o124 P) (bn (o188 P) (bn (o316 P) (bl (o572 P)) .nil) (bn (o444 P) (bl (o700 P)) .nil)) (bn (o252 P) (bn (o380 P) (bl (o636 P)) .nil) (bl (o508 P)))))))) (bn (boot_o_6 P) (bn (boot_o_10 P) (bn (o18 P) (bn (o34 P) (bn (o66 P) (bn (o130 P) (bn (o258 P) (bl (o514 P)) .nil) (bn (o386 P) (bl (o642 P)) .nil)) (bn (o194 P) (bn (o322 P) (bl (o578 P)) .nil) (bl (o450 P)))) (bn (o98 P) (bn (o162 P) (bn (o290 P) (bl (o546 P)) .nil) (bn (o418 P) (bl (o674 P)) .nil)) (bn (o226 P) (bn (o354 P) (bl (o610 P)) .nil) (bl (o482 P))))) (bn (o50 P) (bn (o82 P) (bn (o146 P) (bn (o274 P) (bl (o530 P)) .nil) (bn (o402 P) (bl (o658 P)) .nil)) (bn (o210 P) (bn (o338 P) (bl (o594 P)) .nil) (bl (o466 P)))) (bn (o114 P) (bn (o178 P) (bn (o306 P) (bl (o562 P)) .nil) (bn (o434 P) (bl (o690 P)) .nil)) (bn (o242 P) (bn (o370 P) (bl (o626 P)) .nil) (bl (o498 P)))))) (bn (o26 P) (bn (o42 P) (bn (o74 P) (bn (o138 P) (bn (o266 P) (bl (o522 P)) .nil) (bn (o394 P) (bl (o650 P)) .nil)) (bn (o202 P) (bn (o330 P) (bl (o586 P)) .nil) (bl (o458 P)))) (bn (o106 P) (bn (o170 P) (bn (o298 P) (bl (o554 P)) .nil) (bn (o426 P) (bl (o682 P)) .nil)) (bn (o234 P) (bn (o362 P) (bl (o618 P)) .nil) (bl (o490 P))))) (bn (o58 P) (bn (o90 P) (bn (o154 P) (bn (o282 P) (bl (o538 P)) .nil) (bn (o410 P) (bl (o666 P)) .nil)) (bn (o218 P) (bn (o346 P) (bl (o602 P)) .nil) (bl (o474 P)))) (bn (o122 P) (bn (o186 P) (bn (o314 P) (bl (o570 P)) .nil) (bn (o442 P) (bl (o698 P)) .nil)) (bn (o250 P) (bn (o378 P) (bl (o634 P)) .nil) (bl (o506 P))))))) (bn (o14 P) (bn (o22 P) (bn (o38 P) (bn (o70 P) (bn (o134 P) (bn (o262 P) (bl (o518 P)) .nil) (bn (o390 P) (bl (o646 P)) .nil)) (bn (o198 P) (bn (o326 P) (bl (o582 P)) .nil) (bl (o454 P)))) (bn (o102 P) (bn (o166 P) (bn (o294 P) (bl (o550 P)) .nil) (bn (o422 P) (bl (o678 P)) .nil)) (bn (o230 P) (bn (o358 P) (bl (o614 P)) .nil) (bl (o486 P))))) (bn (o54 P) (bn (o86 P) (bn (o150 P) (bn (o278 P) (bl (o534 P)) .nil) (bn (o406 P) (bl (o662 P)) .nil)) (bn (o214 P) (bn (o342 P) (bl (o598 P)) .nil) (bl (o470 P)))) (bn (o118 P) (bn (o182 P) (bn (o310 P) (bl (o566 P)) .nil) (bn (o438 P) (bl (o694 P)) .nil)) (bn (o246 P) (bn (o374 P) (bl (o630 P)) .nil) (bl (o502 P)))))) (bn (o30 P) (bn (o46 P) (bn (o78 P) (bn (o142 P) (bn (o270 P) (bl (o526 P)) .nil) (bn (o398 P) (bl (o654 P)) .nil)) (bn (o206 P) (bn (o334 P) (bl (o590 P)) .nil) (bl (o462 P)))) (bn (o110 P) (bn (o174 P) (bn (o302 P) (bl (o558 P)) .nil) (bn (o430 P) (bl (o686 P)) .nil)) (bn (o238 P) (bn (o366 P) (bl (o622 P)) .nil) (bl (o494 P))))) (bn (o62 P) (bn (o94 P) (bn (o158 P) (bn (o286 P) (bl (o542 P)) .nil) (bn (o414 P) (bl (o670 P)) .nil)) (bn (o222 P) (bn (o350 P) (bl (o606 P)) .nil) (bl (o478 P)))) (bn (o126 P) (bn (o190 P) (bn (o318 P) (bl (o574 P)) .nil) (bl (o446 P))) (bn (o254 P) (bn (o382 P) (bl (o638 P)) .nil) (bl (o510 P)))))))))
noncomputable def t15 (P : Params) : BT := bn (boot_o_0 P) (bn (boot_o_1 P) (bn (o3_13 P) (bn (boot_o_7 P) (bn (o15 P) (bn (o31 P) (bn (o63 P) (bn (o127 P) (bn (o255 P) (bl (o511 P)) .nil) (bn (o383 P) (bl (o639 P)) .nil)) (bn (o191 P) (bn (o319 P) (bl (o575 P)) .nil) (bn (o447 P) (bl (o703 P)) .nil))) (bn (o95 P) (bn (o159 P) (bn (o287 P) (bl (o543 P)) .nil) (bn (o415 P) (bl (o671 P)) .nil)) (bn (o223 P) (bn (o351 P) (bl (o607 P)) .nil) (bn (o479 P) (bl (o735 P)) .nil)))) (bn (o47_2 P) (bn (o79 P) (bn (o143 P) (bn (o271 P) (bl (o527 P)) .nil) (bn (o399 P) (bl (o655 P)) .nil)) (bn (o207 P) (bn (o335 P) (bl (o591 P)) .nil) (bn (o463 P) (bl (o719 P)) .nil))) (bn (o111 P) (bn (o175 P) (bn (o303 P) (bl (o559 P)) .nil) (bn (o431 P) (bl (o687 P)) .nil)) (bn (o239 P) (bn (o367 P) (bl (o623 P)) .nil) (bn (o495 P) (bl (o751 P)) .nil))))) (bn (o23 P) (bn (o39 P) (bn (o71 P) (bn (o135 P) (bn (o263 P) (bl (o519 P)) .nil) (bn (o391 P) (bl (o647 P)) .nil)) (bn (o199 P) (bn (o327 P) (bl (o583 P)) .nil) (bn (o455 P) (bl (o711 P)) .nil))) (bn (o103 P) (bn (o167 P) (bn (o295 P) (bl (o551 P)) .nil) (bn (o423 P) (bl (o679 P)) .nil)) (bn (o231 P) (bn (o359 P) (bl (o615 P)) .nil) (bn (o487 P) (bl (o743 P)) .nil)))) (bn (o55 P) (bn (o87 P) (bn (o151 P) (bn (o279 P) (bl (o535 P)) .nil) (bn (o407 P) (bl (o663 P)) .nil)) (bn (o215 P) (bn (o343 P) (bl (o599 P)) .nil) (bn (o471 P) (bl (o727 P)) .nil))) (bn (o119 P) (bn (o183 P) (bn (o311 P) (bl (o567 P)) .nil) (bn (o439 P) (bl (o695 P)) .nil)) (bn (o247 P) (bn (o375 P) (bl (o631 P)) .nil) (bl (o503 P))))))) (bn (o11 P) (bn (o19 P) (bn (o35 P) (bn (o67 P) (bn (o131 P) (bn (o259 P) (bl (o515 P)) .nil) (bn (o387 P) (bl (o643 P)) .nil)) (bn (o195 P) (bn (o323 P) (bl (o579 P)) .nil) (bn (o451 P) (bl (o707 P)) .nil))) (bn (o99 P) (bn (o163 P) (bn (o291 P) (bl (o547 P)) .nil) (bn (o419 P) (bl (o675 P)) .nil)) (bn (o227 P) (bn (o355 P) (bl (o611 P)) .nil) (bn (o483 P) (bl (o739 P)) .nil)))) (bn (o51 P) (bn (o83 P) (bn (o147 P) (bn (o275 P) (bl (o531 P)) .nil) (bn (o403 P) (bl (o659 P)) .nil)) (bn (o211 P) (bn (o339 P) (bl (o595 P)) .nil) (bn (o467 P) (bl (o723 P)) .nil))) (bn (o115 P) (bn (o179 P) (bn (o307 P) (bl (o563 P)) .nil) (bn (o435 P) (bl (o691 P)) .nil)) (bn (o243 P) (bn (o371 P) (bl (o627 P)) .nil) (bl (o499 P)))))) (bn (o27 P) (bn (o43 P) (bn (o75 P) (bn (o139 P) (bn (o267 P) (bl (o523 P)) .nil) (bn (o395 P) (bl (o651 P)) .nil)) (bn (o203 P) (bn (o331 P) (bl (o587 P)) .nil) (bn (o459 P) (bl (o715 P)) .nil))) (bn (o107 P) (bn (o171 P) (bn (o299 P) (bl (o555 P)) .nil) (bn (o427 P) (bl (o683 P)) .nil)) (bn (o235 P) (bn (o363 P) (bl (o619 P)) .nil) (bn (o491 P) (bl (o747 P)) .nil)))) (bn (o59 P) (bn (o91 P) (bn (o155 P) (bn (o283 P) (bl (o539 P)) .nil) (bn (o411 P) (bl (o667 P)) .nil)) (bn (o219 P) (bn (o347 P) (bl (o603 P)) .nil) (bn (o475 P) (bl (o731 P)) .nil))) (bn (o123 P) (bn (o187 P) (bn (o315 P) (bl (o571 P)) .nil) (bn (o443 P) (bl (o699 P)) .nil)) (bn (o251 P) (bn (o379 P) (bl (o635 P)) .nil) (bl (o507 P)))))))) (bn (boot_o_5 P) (bn (boot_o_9 P) (bn (o17 P) (bn (o33 P) (bn (o65 P) (bn (o129 P) (bn (o257 P) (bl (o513 P)) .nil) (bn (o385 P) (bl (o641 P)) .nil)) (bn (o193 P) (bn (o321 P) (bl (o577 P)) .nil) (bn (o449 P) (bl (o705 P)) .nil))) (bn (o97 P) (bn (o161 P) (bn (o289 P) (bl (o545 P)) .nil) (bn (o417 P) (bl (o673 P)) .nil)) (bn (o225 P) (bn (o353 P) (bl (o609 P)) .nil) (bn (o481 P) (bl (o737 P)) .nil)))) (bn (o49 P) (bn (o81 P) (bn (o145 P) (bn (o273 P) (bl (o529 P)) .nil) (bn (o401 P) (bl (o657 P)) .nil)) (bn (o209 P) (bn (o337 P) (bl (o593 P)) .nil) (bn (o465 P) (bl (o721 P)) .nil))) (bn (o113 P) (bn (o177 P) (bn (o305 P) (bl (o561 P)) .nil) (bn (o433 P) (bl (o689 P)) .nil)) (bn (o241 P) (bn (o369 P) (bl (o625 P)) .nil) (bl (o497 P)))))) (bn (o25 P) (bn (o41 P) (bn (o73 P) (bn (o137 P) (bn (o265 P) (bl (o521 P)) .nil) (bn (o393 P) (bl (o649 P)) .nil)) (bn (o201 P) (bn (o329 P) (bl (o585 P)) .nil) (bn (o457 P) (bl (o713 P)) .nil))) (bn (o105 P) (bn (o169 P) (bn (o297 P) (bl (o553 P)) .nil) (bn (o425 P) (bl (o681 P)) .nil)) (bn (o233 P) (bn (o361 P) (bl (o617 P)) .nil) (bn (o489 P) (bl (o745 P)) .nil)))) (bn (o57 P) (bn (o89 P) (bn (o153 P) (bn (o281 P) (bl (o537 P)) .nil) (bn (o409 P) (bl (o665 P)) .nil)) (bn (o217 P) (bn (o345 P) (bl (o601 P)) .nil) (bn (o473 P) (bl (o729 P)) .nil))) (bn (o121 P) (bn (o185 P) (bn (o313 P) (bl (o569 P)) .nil) (bn (o441 P) (bl (o697 P)) .nil)) (bn (o249 P) (bn (o377 P) (bl (o633 P)) .nil) (bl (o505 P))))))) (bn (o13 P) (bn (o21 P) (bn (o37 P) (bn (o69 P) (bn (o133 P) (bn (o261 P) (bl (o517 P)) .nil) (bn (o389 P) (bl (o645 P)) .nil)) (bn (o197 P) (bn (o325 P) (bl (o581 P)) .nil) (bn (o453 P) (bl (o709 P)) .nil))) (bn (o101 P) (bn (o165 P) (bn (o293 P) (bl (o549 P)) .nil) (bn (o421 P) (bl (o677 P)) .nil)) (bn (o229 P) (bn (o357 P) (bl (o613 P)) .nil) (bn (o485 P) (bl (o741 P)) .nil)))) (bn (o53 P) (bn (o85 P) (bn (o149 P) (bn (o277 P) (bl (o533 P)) .nil) (bn (o405 P) (bl (o661 P)) .nil)) (bn (o213 P) (bn (o341 P) (bl (o597 P)) .nil) (bn (o469 P) (bl (o725 P)) .nil))) (bn (o117 P) (bn (o181 P) (bn (o309 P) (bl (o565 P)) .nil) (bn (o437 P) (bl (o693 P)) .nil)) (bn (o245 P) (bn (o373 P) (bl (o629 P)) .nil) (bl (o501 P)))))) (bn (o29 P) (bn (o45 P) (bn (o77 P) (bn (o141 P) (bn (o269 P) (bl (o525 P)) .nil) (bn (o397 P) (bl (o653 P)) .nil)) (bn (o205 P) (bn (o333 P) (bl (o589 P)) .nil) (bn (o461 P) (bl (o717 P)) .nil))) (bn (o109 P) (bn (o173 P) (bn (o301 P) (bl (o557 P)) .nil) (bn (o429 P) (bl (o685 P)) .nil)) (bn (o237 P) (bn (o365 P) (bl (o621 P)) .nil) (bn (o493 P) (bl (o749 P)) .nil)))) (bn (o61 P) (bn (o93 P) (bn (o157 P) (bn (o285 P) (bl (o541 P)) .nil) (bn (o413 P) (bl (o669 P)) .nil)) (bn (o221 P) (bn (o349 P) (bl (o605 P)) .nil) (bn (o477 P) (bl (o733 P)) .nil))) (bn (o125 P) (bn (o189 P) (bn (o317 P) (bl (o573 P)) .nil) (bn (o445 P) (bl (o701 P)) .nil)) (bn (o253 P) (bn (o381 P) (bl (o637 P)) .nil) (bl (o509 P))))))))) (bn (o2_1 P) (bn (boot_o_4 P) (bn (boot_o_8 P) (bn (o16 P) (bn (o32 P) (bn (o64 P) (bn (o128 P) (bn (o256 P) (bl (o512 P)) .nil) (bn (o384 P) (bl (o640 P)) .nil)) (bn (o192 P) (bn (o320 P) (bl (o576 P)) .nil) (bn (o448 P) (bl (o704 P)) .nil))) (bn (o96 P) (bn (o160 P) (bn (o288 P) (bl (o544 P)) .nil) (bn (o416 P) (bl (o672 P)) .nil)) (bn (o224 P) (bn (o352 P) (bl (o608 P)) .nil) (bn (o480 P) (bl (o736 P)) .nil)))) (bn (o48 P) (bn (o80 P) (bn (o144 P) (bn (o272 P) (bl (o528 P)) .nil) (bn (o400 P) (bl (o656 P)) .nil)) (bn (o208 P) (bn (o336 P) (bl (o592 P)) .nil) (bn (o464 P) (bl (o720 P)) .nil))) (bn (o112 P) (bn (o176 P) (bn (o304 P) (bl (o560 P)) .nil) (bn (o432 P) (bl (o688 P)) .nil)) (bn (o240 P) (bn (o368 P) (bl (o624 P)) .nil) (bn (o496 P) (bl (o752 P)) .nil))))) (bn (o24 P) (bn (o40 P) (bn (o72 P) (bn (o136 P) (bn (o264 P) (bl (o520 P)) .nil) (bn (o392 P) (bl (o648 P)) .nil)) (bn (o200 P) (bn (o328 P) (bl (o584 P)) .nil) (bn (o456 P) (bl (o712 P)) .nil))) (bn (o104 P) (bn (o168 P) (bn (o296 P) (bl (o552 P)) .nil) (bn (o424 P) (bl (o680 P)) .nil)) (bn (o232 P) (bn (o360 P) (bl (o616 P)) .nil) (bn (o488 P) (bl (o744 P)) .nil)))) (bn (o56 P) (bn (o88 P) (bn (o152 P) (bn (o280 P) (bl (o536 P)) .nil) (bn (o408 P) (bl (o664 P)) .nil)) (bn (o216 P) (bn (o344 P) (bl (o600 P)) .nil) (bn (o472 P) (bl (o728 P)) .nil))) (bn (o120 P) (bn (o184 P) (bn (o312 P) (bl (o568 P)) .nil) (bn (o440 P) (bl (o696 P)) .nil)) (bn (o248 P) (bn (o376 P) (bl (o632 P)) .nil) (bl (o504 P))))))) (bn (o12_13 P) (bn (o20 P) (bn (o36 P) (bn (o68 P) (bn (o132 P) (bn (o260 P) (bl (o516 P)) .nil) (bn (o388 P) (bl (o644 P)) .nil)) (bn (o196 P) (bn (o324 P) (bl (o580 P)) .nil) (bn (o452 P) (bl (o708 P)) .nil))) (bn (o100 P) (bn (o164 P) (bn (o292 P) (bl (o548 P)) .nil) (bn (o420 P) (bl (o676 P)) .nil)) (bn (o228 P) (bn (o356 P) (bl (o612 P)) .nil) (bn (o484 P) (bl (o740 P)) .nil)))) (bn (o52 P) (bn (o84 P) (bn (o148 P) (bn (o276 P) (bl (o532 P)) .nil) (bn (o404 P) (bl (o660 P)) .nil)) (bn (o212 P) (bn (o340 P) (bl (o596 P)) .nil) (bn (o468 P) (bl (o724 P)) .nil))) (bn (o116 P) (bn (o180 P) (bn (o308 P) (bl (o564 P)) .nil) (bn (o436 P) (bl (o692 P)) .nil)) (bn (o244 P) (bn (o372 P) (bl (o628 P)) .nil) (bl (o500 P)))))) (bn (o28 P) (bn (o44 P) (bn (o76 P) (bn (o140 P) (bn (o268 P) (bl (o524 P)) .nil) (bn (o396 P) (bl (o652 P)) .nil)) (bn (o204 P) (bn (o332 P) (bl (o588 P)) .nil) (bn (o460 P) (bl (o716 P)) .nil))) (bn (o108 P) (bn (o172 P) (bn (o300 P) (bl (o556 P)) .nil) (bn (o428 P) (bl (o684 P)) .nil)) (bn (o236 P) (bn (o364 P) (bl (o620 P)) .nil) (bn (o492 P) (bl (o748 P)) .nil)))) (bn (o60 P) (bn (o92 P) (bn (o156 P) (bn (o284 P) (bl (o540 P)) .nil) (bn (o412 P) (bl (o668 P)) .nil)) (bn (o220 P) (bn (o348 P) (bl (o604 P)) .nil) (bn (o476 P) (bl (o732 P)) .nil))) (bn (o124 P) (bn (o188 P) (bn (o316 P) (bl (o572 P)) .nil) (bn (o444 P) (bl (o700 P)) .nil)) (bn (o252 P) (bn (o380 P) (bl (o636 P)) .nil) (bl (o508 P)))))))) (bn (boot_o_6 P) (bn (boot_o_10 P) (bn (o18 P) (bn (o34 P) (bn (o66 P) (bn (o130 P) (bn (o258 P) (bl (o514 P)) .nil) (bn (o386 P) (bl (o642 P)) .nil)) (bn (o194 P) (bn (o322 P) (bl (o578 P)) .nil) (bn (o450 P) (bl (o706 P)) .nil))) (bn (o98 P) (bn (o162 P) (bn (o290 P) (bl (o546 P)) .nil) (bn (o418 P) (bl (o674 P)) .nil)) (bn (o226 P) (bn (o354 P) (bl (o610 P)) .nil) (bn (o482 P) (bl (o738 P)) .nil)))) (bn (o50 P) (bn (o82 P) (bn (o146 P) (bn (o274 P) (bl (o530 P)) .nil) (bn (o402 P) (bl (o658 P)) .nil)) (bn (o210 P) (bn (o338 P) (bl (o594 P)) .nil) (bn (o466 P) (bl (o722 P)) .nil))) (bn (o114 P) (bn (o178 P) (bn (o306 P) (bl (o562 P)) .nil) (bn (o434 P) (bl (o690 P)) .nil)) (bn (o242 P) (bn (o370 P) (bl (o626 P)) .nil) (bl (o498 P)))))) (bn (o26 P) (bn (o42 P) (bn (o74 P) (bn (o138 P) (bn (o266 P) (bl (o522 P)) .nil) (bn (o394 P) (bl (o650 P)) .nil)) (bn (o202 P) (bn (o330 P) (bl (o586 P)) .nil) (bn (o458 P) (bl (o714 P)) .nil))) (bn (o106 P) (bn (o170 P) (bn (o298 P) (bl (o554 P)) .nil) (bn (o426 P) (bl (o682 P)) .nil)) (bn (o234 P) (bn (o362 P) (bl (o618 P)) .nil) (bn (o490 P) (bl (o746 P)) .nil)))) (bn (o58 P) (bn (o90 P) (bn (o154 P) (bn (o282 P) (bl (o538 P)) .nil) (bn (o410 P) (bl (o666 P)) .nil)) (bn (o218 P) (bn (o346 P) (bl (o602 P)) .nil) (bn (o474 P) (bl (o730 P)) .nil))) (bn (o122 P) (bn (o186 P) (bn (o314 P) (bl (o570 P)) .nil) (bn (o442 P) (bl (o698 P)) .nil)) (bn (o250 P) (bn (o378 P) (bl (o634 P)) .nil) (bl (o506 P))))))) (bn (o14 P) (bn (o22 P) (bn (o38 P) (bn (o70 P) (bn (o134 P) (bn (o262 P) (bl (o518 P)) .nil) (bn (o390 P) (bl (o646 P)) .nil)) (bn (o198 P) (bn (o326 P) (bl (o582 P)) .nil) (bn (o454 P) (bl (o710 P)) .nil))) (bn (o102 P) (bn (o166 P) (bn (o294 P) (bl (o550 P)) .nil) (bn (o422 P) (bl (o678 P)) .nil)) (bn (o230 P) (bn (o358 P) (bl (o614 P)) .nil) (bn (o486 P) (bl (o742 P)) .nil)))) (bn (o54 P) (bn (o86 P) (bn (o150 P) (bn (o278 P) (bl (o534 P)) .nil) (bn (o406 P) (bl (o662 P)) .nil)) (bn (o214 P) (bn (o342 P) (bl (o598 P)) .nil) (bn (o470 P) (bl (o726 P)) .nil))) (bn (o118 P) (bn (o182 P) (bn (o310 P) (bl (o566 P)) .nil) (bn (o438 P) (bl (o694 P)) .nil)) (bn (o246 P) (bn (o374 P) (bl (o630 P)) .nil) (bl (o502 P)))))) (bn (o30 P) (bn (o46 P) (bn (o78 P) (bn (o142 P) (bn (o270 P) (bl (o526 P)) .nil) (bn (o398 P) (bl (o654 P)) .nil)) (bn (o206 P) (bn (o334 P) (bl (o590 P)) .nil) (bn (o462 P) (bl (o718 P)) .nil))) (bn (o110 P) (bn (o174 P) (bn (o302 P) (bl (o558 P)) .nil) (bn (o430 P) (bl (o686 P)) .nil)) (bn (o238 P) (bn (o366 P) (bl (o622 P)) .nil) (bn (o494 P) (bl (o750 P)) .nil)))) (bn (o62 P) (bn (o94 P) (bn (o158 P) (bn (o286 P) (bl (o542 P)) .nil) (bn (o414 P) (bl (o670 P)) .nil)) (bn (o222 P) (bn (o350 P) (bl (o606 P)) .nil) (bn (o478 P) (bl (o734 P)) .nil))) (bn (o126 P) (bn (o190 P) (bn (o318 P) (bl (o574 P)) .nil) (bn (o446 P) (bl (o702 P)) .nil)) (bn (o254 P) (bn (o382 P) (bl (o638 P)) .nil) (bl (o510 P)))))))))
noncomputable def s2 (w : World) (os : OsState) : SharedT := ⟨t2 w.params, 15, {}, #[], {}, 187, os⟩
noncomputable def s3 (w : World) (os : OsState) : SharedT := ⟨t3 w.params, 51, {}, #[], {}, 236, os⟩
noncomputable def s4 (w : World) (os : OsState) : SharedT := ⟨t4 w.params, 63, {}, #[], {}, 252, os⟩
noncomputable def s5 (w : World) (os : OsState) : SharedT := ⟨t5 w.params, 111, {}, #[], {}, 314, os⟩
noncomputable def s6 (w : World) (os : OsState) : SharedT := ⟨t6 w.params, 154, {}, #[], {}, 409, os⟩
noncomputable def s7 (w : World) (os : OsState) : SharedT := ⟨t7 w.params, 238, {}, #[], {}, 524, os⟩
noncomputable def s8 (w : World) (os : OsState) : SharedT := ⟨t8 w.params, 265, {}, #[], {}, 611, os⟩
noncomputable def s9 (w : World) (os : OsState) : SharedT := ⟨t9 w.params, 279, {}, #[], {}, 627, os⟩
noncomputable def s10 (w : World) (os : OsState) : SharedT := ⟨t10 w.params, 377, {}, #[], {}, 755, os⟩
noncomputable def s11 (w : World) (os : OsState) : SharedT := ⟨t11 w.params, 455, {}, #[], {}, 865, os⟩
noncomputable def s12 (w : World) (os : OsState) : SharedT := ⟨t12 w.params, 474, {}, #[], {}, 896, os⟩
noncomputable def s13 (w : World) (os : OsState) : SharedT := ⟨t13 w.params, 647, {}, #[], {}, 1103, os⟩
noncomputable def s14 (w : World) (os : OsState) : SharedT := ⟨t14 w.params, 701, {}, #[], {}, 1182, os⟩
noncomputable def s15 (w : World) (os : OsState) : SharedT := ⟨t15 w.params, 753, {}, #[], {}, 1260, os⟩
noncomputable def s0 (w : World) (os : OsState) : Shared := ⟨boot_heap w.params, Array.mk [], boot_drawn, boot_toks, os⟩
noncomputable def s1 (w : World) (os : OsState) : Shared := ⟨h1 w.params, #[], {}, 187, os⟩
noncomputable def sF (w : World) (os : OsState) : Shared := ⟨hF w.params, #[], {}, 1260, os⟩
theorem pre_ok (w : World) (os : OsState) : topGo treeTable pw w 11 ann 12 (s0 w os) (topStub pw) = some (s1 w os, ⟨denote treeTable cE, cE, ⟨0, 0, 0, 0⟩, top⟩) := by
  rw [PySem.W.Fast.te15667345088766844465, PySem.W.Fast.te14364793385576792824, PySem.W.Fast.te11892475500146522536]
  kernel_rfl
theorem block_ok (w : World) (os : OsState) : segRun treeTable pw w 11 ann 1 1 (s1 w os) (blockOf body env cE ⟨0, 0, 0, 0⟩ top) = some (.next, (s2 w os).abs, cE, ⟨0, 0, 0, 0⟩) := by
  rw [PySem.W.Fast.te14374325043358763698, PySem.W.Fast.te14364793385576792824]
  kernel_rfl
theorem g0 (w : World) (os : OsState) : segRunT treeTable pw w 11 ann 1 305 (s2 w os) ⟨(execs (sts 0 3) env).wrap doneF deadEnd id id, cE, ⟨0, 0, 0, 0⟩, top⟩ = some (.next, s3 w os, cE, ⟨5, 0, 13, 35⟩) := by
  rw [PySem.W.Fast.te10110043849684766642, PySem.W.Fast.te14364793385576792824, PySem.W.Fast.te12563942051412417395]
  kernel_rfl
theorem g1 (w : World) (os : OsState) : segRunT treeTable pw w 11 ann 1 214 (s3 w os) ⟨(execs (sts 3 4) env).wrap doneF deadEnd id id, cE, ⟨5, 0, 13, 35⟩, top⟩ = some (.next, s4 w os, cE, ⟨14, 0, 15, 8⟩) := by
  rw [PySem.W.Fast.te10110043849684766642, PySem.W.Fast.te14364793385576792824, PySem.W.Fast.te12563942051412417395]
  kernel_rfl
theorem g2 (w : World) (os : OsState) : segRunT treeTable pw w 11 ann 1 385 (s4 w os) ⟨(execs (sts 4 12) env).wrap doneF deadEnd id id, cE, ⟨14, 0, 15, 8⟩, top⟩ = some (.next, s5 w os, cE, ⟨41, 0, 42, 20⟩) := by
  rw [PySem.W.Fast.te10110043849684766642, PySem.W.Fast.te14364793385576792824, PySem.W.Fast.te12563942051412417395]
  kernel_rfl
theorem g3p (b : Bool) (w : World) (os : OsState) : (fun w => segRunT treeTable pw w 11 ann 1 383 (s5 w os) ⟨(execs (sts 12 21) env).wrap doneF deadEnd id id, cE, ⟨41, 0, 42, 20⟩, top⟩ = some (.next, s6 w os, cE, ⟨89, 0, 95, 26⟩)) (w.withFollow "special-get-raises" b) := by cases b <;> (show segRunT treeTable _ _ _ _ _ _ _ _ = _) <;> rw [PySem.W.Fast.te10110043849684766642, PySem.W.Fast.te14364793385576792824, PySem.W.Fast.te12563942051412417395] <;> kernel_rfl
theorem g3 (w : World) (os : OsState) : segRunT treeTable pw w 11 ann 1 383 (s5 w os) ⟨(execs (sts 12 21) env).wrap doneF deadEnd id id, cE, ⟨41, 0, 42, 20⟩, top⟩ = some (.next, s6 w os, cE, ⟨89, 0, 95, 26⟩) := byRow2 "special-get-raises" (P := fun w => segRunT treeTable pw w 11 ann 1 383 (s5 w os) ⟨(execs (sts 12 21) env).wrap doneF deadEnd id id, cE, ⟨41, 0, 42, 20⟩, top⟩ = some (.next, s6 w os, cE, ⟨89, 0, 95, 26⟩)) (fun w => g3p false w os) (fun w => g3p true w os) w
theorem g4 (w : World) (os : OsState) : segRunT treeTable pw w 11 ann 1 394 (s6 w os) ⟨(execs (sts 21 35) env).wrap doneF deadEnd id id, cE, ⟨89, 0, 95, 26⟩, top⟩ = some (.next, s7 w os, cE, ⟨170, 0, 177, 16⟩) := by
  rw [PySem.W.Fast.te10110043849684766642, PySem.W.Fast.te14364793385576792824, PySem.W.Fast.te12563942051412417395]
  kernel_rfl
theorem g5p (b : Bool) (w : World) (os : OsState) : (fun w => segRunT treeTable pw w 11 ann 1 382 (s7 w os) ⟨(execs (sts 35 45) env).wrap doneF deadEnd id id, cE, ⟨170, 0, 177, 16⟩, top⟩ = some (.next, s8 w os, cE, ⟨193, 0, 195, 68⟩)) (w.withFollow "special-get-raises" b) := by cases b <;> (show segRunT treeTable _ _ _ _ _ _ _ _ = _) <;> rw [PySem.W.Fast.te10110043849684766642, PySem.W.Fast.te14364793385576792824, PySem.W.Fast.te12563942051412417395] <;> kernel_rfl
theorem g5 (w : World) (os : OsState) : segRunT treeTable pw w 11 ann 1 382 (s7 w os) ⟨(execs (sts 35 45) env).wrap doneF deadEnd id id, cE, ⟨170, 0, 177, 16⟩, top⟩ = some (.next, s8 w os, cE, ⟨193, 0, 195, 68⟩) := byRow2 "special-get-raises" (P := fun w => segRunT treeTable pw w 11 ann 1 382 (s7 w os) ⟨(execs (sts 35 45) env).wrap doneF deadEnd id id, cE, ⟨170, 0, 177, 16⟩, top⟩ = some (.next, s8 w os, cE, ⟨193, 0, 195, 68⟩)) (fun w => g5p false w os) (fun w => g5p true w os) w
theorem g6 (w : World) (os : OsState) : segRunT treeTable pw w 11 ann 1 61 (s8 w os) ⟨(execs (sts 45 47) env).wrap doneF deadEnd id id, cE, ⟨193, 0, 195, 68⟩, top⟩ = some (.next, s9 w os, cE, ⟨200, 0, 201, 56⟩) := by
  rw [PySem.W.Fast.te10110043849684766642, PySem.W.Fast.te14364793385576792824, PySem.W.Fast.te12563942051412417395]
  kernel_rfl
theorem g7 (w : World) (os : OsState) : segRunT treeTable pw w 11 ann 1 586 (s9 w os) ⟨(execs (sts 47 48) env).wrap doneF deadEnd id id, cE, ⟨200, 0, 201, 56⟩, top⟩ = some (.next, s10 w os, cE, ⟨202, 0, 304, 19⟩) := by
  rw [PySem.W.Fast.te10110043849684766642, PySem.W.Fast.te14364793385576792824, PySem.W.Fast.te12563942051412417395]
  kernel_rfl
theorem g8 (w : World) (os : OsState) : segRunT treeTable pw w 11 ann 1 368 (s10 w os) ⟨(execs (sts 48 61) env).wrap doneF deadEnd id id, cE, ⟨202, 0, 304, 19⟩, top⟩ = some (.next, s11 w os, cE, ⟨375, 0, 385, 48⟩) := by
  rw [PySem.W.Fast.te10110043849684766642, PySem.W.Fast.te14364793385576792824, PySem.W.Fast.te12563942051412417395]
  kernel_rfl
theorem g9 (w : World) (os : OsState) : segRunT treeTable pw w 11 ann 1 117 (s11 w os) ⟨(execs (sts 61 67) env).wrap doneF deadEnd id id, cE, ⟨375, 0, 385, 48⟩, top⟩ = some (.next, s12 w os, cE, ⟨404, 0, 408, 25⟩) := by
  rw [PySem.W.Fast.te10110043849684766642, PySem.W.Fast.te14364793385576792824, PySem.W.Fast.te12563942051412417395]
  kernel_rfl
theorem g10 (w : World) (os : OsState) : segRunT treeTable pw w 11 ann 1 910 (s12 w os) ⟨(execs (sts 67 68) env).wrap doneF deadEnd id id, cE, ⟨404, 0, 408, 25⟩, top⟩ = some (.next, s13 w os, cE, ⟨409, 0, 531, 20⟩) := by
  rw [PySem.W.Fast.te10110043849684766642, PySem.W.Fast.te14364793385576792824, PySem.W.Fast.te12563942051412417395]
  kernel_rfl
theorem g11 (w : World) (os : OsState) : segRunT treeTable pw w 11 ann 1 398 (s13 w os) ⟨(execs (sts 68 75) env).wrap doneF deadEnd id id, cE, ⟨409, 0, 531, 20⟩, top⟩ = some (.next, s14 w os, cE, ⟨558, 0, 559, 77⟩) := by
  rw [PySem.W.Fast.te10110043849684766642, PySem.W.Fast.te14364793385576792824, PySem.W.Fast.te12563942051412417395]
  kernel_rfl
theorem g12 (w : World) (os : OsState) : segRunT treeTable pw w 11 ann 1 251 (s14 w os) ⟨(execs (sts 75 83) env).wrap doneF deadEnd id id, cE, ⟨558, 0, 559, 77⟩, top⟩ = some (.next, s15 w os, cE, ⟨609, 0, 620, 78⟩) := by
  rw [PySem.W.Fast.te10110043849684766642, PySem.W.Fast.te14364793385576792824, PySem.W.Fast.te12563942051412417395]
  kernel_rfl
theorem fin_ok (w : World) (os : OsState) : topRun treeTable pw w 11 ann 2 (s15 w os).abs ⟨doneF .next, cE, ⟨609, 0, 620, 78⟩, top⟩ = some (sF w os) := by
  rw [PySem.W.Fast.te14082659384304107361, PySem.W.Fast.te14364793385576792824]
  kernel_rfl
theorem body_is : body = sts 0 3 ++ (sts 3 4 ++ (sts 4 12 ++ (sts 12 21 ++ (sts 21 35 ++ (sts 35 45 ++ (sts 45 47 ++ (sts 47 48 ++ (sts 48 61 ++ (sts 61 67 ++ (sts 67 68 ++ (sts 68 75 ++ (sts 75 83 ++ [])))))))))))) := by kernel_rfl
theorem run_ok (w : World) (os : OsState) : topRun treeTable pw w 11 ann (12+(1+(305+(214+(385+(383+(394+(382+(61+(586+(368+(117+(910+(398+(251+2))))))))))))))) (s0 w os) (topStub pw) = some (sF w os) := by
  refine go_top (pre_ok w os) (piece_block (block_ok w os) ?_)
  rw [body_is]
  exact piece_app (segRun_of (g0 w os)) (piece_app (segRun_of (g1 w os)) (piece_app (segRun_of (g2 w os)) (piece_app (segRun_of (g3 w os)) (piece_app (segRun_of (g4 w os)) (piece_app (segRun_of (g5 w os)) (piece_app (segRun_of (g6 w os)) (piece_app (segRun_of (g7 w os)) (piece_app (segRun_of (g8 w os)) (piece_app (segRun_of (g9 w os)) (piece_app (segRun_of (g10 w os)) (piece_app (segRun_of (g11 w os)) (piece_app (segRun_of (g12 w os)) (piece_nil (fin_ok w os))))))))))))))
end
end Mine
end
section
open PySem PySem.W PySem.Calls PyProof.Rows
set_option maxHeartbeats 4000000
namespace Mine
noncomputable section
noncomputable def q : Program := { pw with main := { pw.main with body := [st 82] } }
noncomputable def loose : List PySem.Str := [z "_wall", z "LedgerError", z "TokenFault", z "GrammarFault", z "FIGURES", z "cut_quotient", z "decimal", z "negated", z "units_at", z "is_whole", z "whole_of", z "worth_of", z "read_decimal", z "MOST_SUBSCRIPTS", z "FIGURE_NAMES", z "is_part_next", z "read_subscripts", z "read_part", z "read_ref", z "read_all", z "read_figure", z "read_operand", z "MOST_DEEP_expressions", z "read_expression", z "sign_among", z "read_sum", z "read_product", z "read_factor", z "is_lone_number", z "read_power", z "read_primary", z "MOST_DEEP_conditions", z "OPPOSITES", z "CLASSES", z "WORDS_OF_SIGNS", z "WORDS_OF_RELATIONS", z "RELATIONS", z "word_here", z "is_relation_at", z "place_of_word", z "is_predicate_here", z "is_bare_relation_here", z "ConditionReader", z "read_condition", z "word_ahead", z "phrase_words", z "opening_length", z "body_here", z "branches_here", z "ref_here", z "refuse_at", z "is_key_condition", z "table_here", z "read_search_all", z "read_search", z "MOST_OCTET", z "RESERVED", z "is_reserved", z "octets_of_text", z "Reader", z "Token", z "_law_pen", z "_law_draw", z "_law_pick", z "_law_words", z "_law_reader", z "_law_item", z "_law_leaf", z "_law_cond", z "_law_bracket", z "_law_right", z "_law_both"]
noncomputable def objsF (P : Params) : List Obj := [PySem.W.boot_o_0 P, PySem.W.boot_o_1 P, o2_1 P, o3_13 P, PySem.W.boot_o_4 P, PySem.W.boot_o_5 P, PySem.W.boot_o_6 P, PySem.W.boot_o_7 P, PySem.W.boot_o_8 P, PySem.W.boot_o_9 P, PySem.W.boot_o_10 P, o11 P, o12_13 P, o13 P, o14 P, o15 P, o16 P, o17 P, o18 P, o19 P, o20 P, o21 P, o22 P, o23 P, o24 P, o25 P, o26 P, o27 P, o28 P, o29 P, o30 P, o31 P, o32 P, o33 P, o34 P, o35 P, o36 P, o37 P, o38 P, o39 P, o40 P, o41 P, o42 P, o43 P, o44 P, o45 P, o46 P, o47_2 P, o48 P, o49 P, o50 P, o51 P, o52 P, o53 P, o54 P, o55 P, o56 P, o57 P, o58 P, o59 P, o60 P, o61 P, o62 P, o63 P, o64 P, o65 P, o66 P, o67 P, o68 P, o69 P, o70 P, o71 P, o72 P, o73 P, o74 P, o75 P, o76 P, o77 P, o78 P, o79 P, o80 P, o81 P, o82 P, o83 P, o84 P, o85 P, o86 P, o87 P, o88 P, o89 P, o90 P, o91 P, o92 P, o93 P, o94 P, o95 P, o96 P, o97 P, o98 P, o99 P, o100 P, o101 P, o102 P, o103 P, o104 P, o105 P, o106 P, o107 P, o108 P, o109 P, o110 P, o111 P, o112 P, o113 P, o114 P, o115 P, o116 P, o117 P, o118 P, o119 P, o120 P, o121 P, o122 P, o123 P, o124 P, o125 P, o126 P, o127 P, o128 P, o129 P, o130 P, o131 P, o132 P, o133 P, o134 P, o135 P, o136 P, o137 P, o138 P, o139 P, o140 P, o141 P, o142 P, o143 P, o144 P, o145 P, o146 P, o147 P, o148 P, o149 P, o150 P, o151 P, o152 P, o153 P, o154 P, o155 P, o156 P, o157 P, o158 P, o159 P, o160 P, o161 P, o162 P, o163 P, o164 P, o165 P, o166 P, o167 P, o168 P, o169 P, o170 P, o171 P, o172 P, o173 P, o174 P, o175 P, o176 P, o177 P, o178 P, o179 P, o180 P, o181 P, o182 P, o183 P, o184 P, o185 P, o186 P, o187 P, o188 P, o189 P, o190 P, o191 P, o192 P, o193 P, o194 P, o195 P, o196 P, o197 P, o198 P, o199 P, o200 P, o201 P, o202 P, o203 P, o204 P, o205 P, o206 P, o207 P, o208 P, o209 P, o210 P, o211 P, o212 P, o213 P, o214 P, o215 P, o216 P, o217 P, o218 P, o219 P, o220 P, o221 P, o222 P, o223 P, o224 P, o225 P, o226 P, o227 P, o228 P, o229 P, o230 P, o231 P, o232 P, o233 P, o234 P, o235 P, o236 P, o237 P, o238 P, o239 P, o240 P, o241 P, o242 P, o243 P, o244 P, o245 P, o246 P, o247 P, o248 P, o249 P, o250 P, o251 P, o252 P, o253 P, o254 P, o255 P, o256 P, o257 P, o258 P, o259 P, o260 P, o261 P, o262 P, o263 P, o264 P, o265 P, o266 P, o267 P, o268 P, o269 P, o270 P, o271 P, o272 P, o273 P, o274 P, o275 P, o276 P, o277 P, o278 P, o279 P, o280 P, o281 P, o282 P, o283 P, o284 P, o285 P, o286 P, o287 P, o288 P, o289 P, o290 P, o291 P, o292 P, o293 P, o294 P, o295 P, o296 P, o297 P, o298 P, o299 P, o300 P, o301 P, o302 P, o303 P, o304 P, o305 P, o306 P, o307 P, o308 P, o309 P, o310 P, o311 P, o312 P, o313 P, o314 P, o315 P, o316 P, o317 P, o318 P, o319 P, o320 P, o321 P, o322 P, o323 P, o324 P, o325 P, o326 P, o327 P, o328 P, o329 P, o330 P, o331 P, o332 P, o333 P, o334 P, o335 P, o336 P, o337 P, o338 P, o339 P, o340 P, o341 P, o342 P, o343 P, o344 P, o345 P, o346 P, o347 P, o348 P, o349 P, o350 P, o351 P, o352 P, o353 P, o354 P, o355 P, o356 P, o357 P, o358 P, o359 P, o360 P, o361 P, o362 P, o363 P, o364 P, o365 P, o366 P, o367 P, o368 P, o369 P, o370 P, o371 P, o372 P, o373 P, o374 P, o375 P, o376 P, o377 P, o378 P, o379 P, o380 P, o381 P, o382 P, o383 P, o384 P, o385 P, o386 P, o387 P, o388 P, o389 P, o390 P, o391 P, o392 P, o393 P, o394 P, o395 P, o396 P, o397 P, o398 P, o399 P, o400 P, o401 P, o402 P, o403 P, o404 P, o405 P, o406 P, o407 P, o408 P, o409 P, o410 P, o411 P, o412 P, o413 P, o414 P, o415 P, o416 P, o417 P, o418 P, o419 P, o420 P, o421 P, o422 P, o423 P, o424 P, o425 P, o426 P, o427 P, o428 P, o429 P, o430 P, o431 P, o432 P, o433 P, o434 P, o435 P, o436 P, o437 P, o438 P, o439 P, o440 P, o441 P, o442 P, o443 P, o444 P, o445 P, o446 P, o447 P, o448 P, o449 P, o450 P, o451 P, o452 P, o453 P, o454 P, o455 P, o456 P, o457 P, o458 P, o459 P, o460 P, o461 P, o462 P, o463 P, o464 P, o465 P, o466 P, o467 P, o468 P, o469 P, o470 P, o471 P, o472 P, o473 P, o474 P, o475 P, o476 P, o477 P, o478 P, o479 P, o480 P, o481 P, o482 P, o483 P, o484 P, o485 P, o486 P, o487 P, o488 P, o489 P, o490 P, o491 P, o492 P, o493 P, o494 P, o495 P, o496 P, o497 P, o498 P, o499 P, o500 P, o501 P, o502 P, o503 P, o504 P, o505 P, o506 P, o507 P, o508 P, o509 P, o510 P, o511 P, o512 P, o513 P, o514 P, o515 P, o516 P, o517 P, o518 P, o519 P, o520 P, o521 P, o522 P, o523 P, o524 P, o525 P, o526 P, o527 P, o528 P, o529 P, o530 P, o531 P, o532 P, o533 P, o534 P, o535 P, o536 P, o537 P, o538 P, o539 P, o540 P, o541 P, o542 P, o543 P, o544 P, o545 P, o546 P, o547 P, o548 P, o549 P, o550 P, o551 P, o552 P, o553 P, o554 P, o555 P, o556 P, o557 P, o558 P, o559 P, o560 P, o561 P, o562 P, o563 P, o564 P, o565 P, o566 P, o567 P, o568 P, o569 P, o570 P, o571 P, o572 P, o573 P, o574 P, o575 P, o576 P, o577 P, o578 P, o579 P, o580 P, o581 P, o582 P, o583 P, o584 P, o585 P, o586 P, o587 P, o588 P, o589 P, o590 P, o591 P, o592 P, o593 P, o594 P, o595 P, o596 P, o597 P, o598 P, o599 P, o600 P, o601 P, o602 P, o603 P, o604 P, o605 P, o606 P, o607 P, o608 P, o609 P, o610 P, o611 P, o612 P, o613 P, o614 P, o615 P, o616 P, o617 P, o618 P, o619 P, o620 P, o621 P, o622 P, o623 P, o624 P, o625 P, o626 P, o627 P, o628 P, o629 P, o630 P, o631 P, o632 P, o633 P, o634 P, o635 P, o636 P, o637 P, o638 P, o639 P, o640 P, o641 P, o642 P, o643 P, o644 P, o645 P, o646 P, o647 P, o648 P, o649 P, o650 P, o651 P, o652 P, o653 P, o654 P, o655 P, o656 P, o657 P, o658 P, o659 P, o660 P, o661 P, o662 P, o663 P, o664 P, o665 P, o666 P, o667 P, o668 P, o669 P, o670 P, o671 P, o672 P, o673 P, o674 P, o675 P, o676 P, o677 P, o678 P, o679 P, o680 P, o681 P, o682 P, o683 P, o684 P, o685 P, o686 P, o687 P, o688 P, o689 P, o690 P, o691 P, o692 P, o693 P, o694 P, o695 P, o696 P, o697 P, o698 P, o699 P, o700 P, o701 P, o702 P, o703 P, o704 P, o705 P, o706 P, o707 P, o708 P, o709 P, o710 P, o711 P, o712 P, o713 P, o714 P, o715 P, o716 P, o717 P, o718 P, o719 P, o720 P, o721 P, o722 P, o723 P, o724 P, o725 P, o726 P, o727 P, o728 P, o729 P, o730 P, o731 P, o732 P, o733 P, o734 P, o735 P, o736 P, o737 P, o738 P, o739 P, o740 P, o741 P, o742 P, o743 P, o744 P, o745 P, o746 P, o747 P, o748 P, o749 P, o750 P, o751 P, o752 P]
noncomputable def K (P : Params) : Frag := (nat_lit 2, o2_1 P) :: (nat_lit 3, o3_13 P) :: (nat_lit 15, o15 P) :: (nat_lit 17, o17 P) :: (nat_lit 18, o18 P) :: (nat_lit 20, o20 P) :: (nat_lit 21, o21 P) :: (nat_lit 22, o22 P) :: (nat_lit 29, o29 P) :: (nat_lit 30, o30 P) :: (nat_lit 31, o31 P) :: (nat_lit 33, o33 P) :: (nat_lit 34, o34 P) :: (nat_lit 36, o36 P) :: (nat_lit 37, o37 P) :: (nat_lit 38, o38 P) :: (nat_lit 40, o40 P) :: (nat_lit 41, o41 P) :: (nat_lit 43, o43 P) :: (nat_lit 44, o44 P) :: (nat_lit 45, o45 P) :: (nat_lit 46, o46 P) :: (nat_lit 47, o47_2 P) :: (nat_lit 48, o48 P) :: (nat_lit 51, o51 P) :: (nat_lit 58, o58 P) :: (nat_lit 59, o59 P) :: (nat_lit 60, o60 P) :: (nat_lit 63, o63 P) :: (nat_lit 70, o70 P) :: (nat_lit 71, o71 P) :: (nat_lit 72, o72 P) :: (nat_lit 75, o75 P) :: (nat_lit 77, o77 P) :: (nat_lit 78, o78 P) :: (nat_lit 80, o80 P) :: (nat_lit 81, o81 P) :: (nat_lit 82, o82 P) :: (nat_lit 83, o83 P) :: (nat_lit 85, o85 P) :: (nat_lit 86, o86 P) :: (nat_lit 88, o88 P) :: (nat_lit 89, o89 P) :: (nat_lit 90, o90 P) :: (nat_lit 92, o92 P) :: (nat_lit 93, o93 P) :: (nat_lit 95, o95 P) :: (nat_lit 96, o96 P) :: (nat_lit 97, o97 P) :: (nat_lit 99, o99 P) :: (nat_lit 100, o100 P) :: (nat_lit 102, o102 P) :: (nat_lit 103, o103 P) :: (nat_lit 104, o104 P) :: (nat_lit 106, o106 P) :: (nat_lit 107, o107 P) :: (nat_lit 109, o109 P) :: (nat_lit 110, o110 P) :: (nat_lit 111, o111 P) :: (nat_lit 113, o113 P) :: (nat_lit 114, o114 P) :: (nat_lit 116, o116 P) :: (nat_lit 117, o117 P) :: (nat_lit 118, o118 P) :: (nat_lit 120, o120 P) :: (nat_lit 121, o121 P) :: (nat_lit 123, o123 P) :: (nat_lit 124, o124 P) :: (nat_lit 125, o125 P) :: (nat_lit 127, o127 P) :: (nat_lit 128, o128 P) :: (nat_lit 130, o130 P) :: (nat_lit 131, o131 P) :: (nat_lit 132, o132 P) :: (nat_lit 133, o133 P) :: (nat_lit 135, o135 P) :: (nat_lit 136, o136 P) :: (nat_lit 138, o138 P) :: (nat_lit 139, o139 P) :: (nat_lit 140, o140 P) :: (nat_lit 142, o142 P) :: (nat_lit 143, o143 P) :: (nat_lit 145, o145 P) :: (nat_lit 146, o146 P) :: (nat_lit 147, o147 P) :: (nat_lit 149, o149 P) :: (nat_lit 150, o150 P) :: (nat_lit 152, o152 P) :: (nat_lit 153, o153 P) :: (nat_lit 154, o154 P) :: (nat_lit 156, o156 P) :: (nat_lit 157, o157 P) :: (nat_lit 159, o159 P) :: (nat_lit 160, o160 P) :: (nat_lit 161, o161 P) :: (nat_lit 163, o163 P) :: (nat_lit 164, o164 P) :: (nat_lit 166, o166 P) :: (nat_lit 167, o167 P) :: (nat_lit 168, o168 P) :: (nat_lit 170, o170 P) :: (nat_lit 171, o171 P) :: (nat_lit 173, o173 P) :: (nat_lit 174, o174 P) :: (nat_lit 175, o175 P) :: (nat_lit 177, o177 P) :: (nat_lit 178, o178 P) :: (nat_lit 180, o180 P) :: (nat_lit 181, o181 P) :: (nat_lit 182, o182 P) :: (nat_lit 184, o184 P) :: (nat_lit 185, o185 P) :: (nat_lit 187, o187 P) :: (nat_lit 188, o188 P) :: (nat_lit 189, o189 P) :: (nat_lit 191, o191 P) :: (nat_lit 192, o192 P) :: (nat_lit 194, o194 P) :: (nat_lit 195, o195 P) :: (nat_lit 196, o196 P) :: (nat_lit 198, o198 P) :: (nat_lit 199, o199 P) :: (nat_lit 201, o201 P) :: (nat_lit 202, o202 P) :: (nat_lit 203, o203 P) :: (nat_lit 205, o205 P) :: (nat_lit 206, o206 P) :: (nat_lit 208, o208 P) :: (nat_lit 209, o209 P) :: (nat_lit 210, o210 P) :: (nat_lit 212, o212 P) :: (nat_lit 213, o213 P) :: (nat_lit 215, o215 P) :: (nat_lit 216, o216 P) :: (nat_lit 217, o217 P) :: (nat_lit 219, o219 P) :: (nat_lit 220, o220 P) :: (nat_lit 222, o222 P) :: (nat_lit 223, o223 P) :: (nat_lit 224, o224 P) :: (nat_lit 226, o226 P) :: (nat_lit 227, o227 P) :: (nat_lit 229, o229 P) :: (nat_lit 230, o230 P) :: (nat_lit 231, o231 P) :: (nat_lit 233, o233 P) :: (nat_lit 234, o234 P) :: (nat_lit 236, o236 P) :: (nat_lit 237, o237 P) :: (nat_lit 238, o238 P) :: (nat_lit 239, o239 P) :: (nat_lit 240, o240 P) :: (nat_lit 241, o241 P) :: (nat_lit 242, o242 P) :: (nat_lit 243, o243 P) :: (nat_lit 244, o244 P) :: (nat_lit 246, o246 P) :: (nat_lit 247, o247 P) :: (nat_lit 249, o249 P) :: (nat_lit 250, o250 P) :: (nat_lit 251, o251 P) :: (nat_lit 253, o253 P) :: (nat_lit 254, o254 P) :: (nat_lit 256, o256 P) :: (nat_lit 257, o257 P) :: (nat_lit 258, o258 P) :: (nat_lit 260, o260 P) :: (nat_lit 261, o261 P) :: (nat_lit 263, o263 P) :: (nat_lit 264, o264 P) :: (nat_lit 265, o265 P) :: (nat_lit 267, o267 P) :: (nat_lit 268, o268 P) :: (nat_lit 270, o270 P) :: (nat_lit 271, o271 P) :: (nat_lit 272, o272 P) :: (nat_lit 274, o274 P) :: (nat_lit 275, o275 P) :: (nat_lit 277, o277 P) :: (nat_lit 278, o278 P) :: (nat_lit 286, o286 P) :: (nat_lit 288, o288 P) :: (nat_lit 289, o289 P) :: (nat_lit 291, o291 P) :: (nat_lit 292, o292 P) :: (nat_lit 293, o293 P) :: (nat_lit 295, o295 P) :: (nat_lit 296, o296 P) :: (nat_lit 298, o298 P) :: (nat_lit 299, o299 P) :: (nat_lit 300, o300 P) :: (nat_lit 302, o302 P) :: (nat_lit 303, o303 P) :: (nat_lit 305, o305 P) :: (nat_lit 306, o306 P) :: (nat_lit 307, o307 P) :: (nat_lit 309, o309 P) :: (nat_lit 310, o310 P) :: (nat_lit 312, o312 P) :: (nat_lit 313, o313 P) :: (nat_lit 314, o314 P) :: (nat_lit 316, o316 P) :: (nat_lit 317, o317 P) :: (nat_lit 319, o319 P) :: (nat_lit 320, o320 P) :: (nat_lit 321, o321 P) :: (nat_lit 323, o323 P) :: (nat_lit 324, o324 P) :: (nat_lit 326, o326 P) :: (nat_lit 327, o327 P) :: (nat_lit 328, o328 P) :: (nat_lit 330, o330 P) :: (nat_lit 331, o331 P) :: (nat_lit 333, o333 P) :: (nat_lit 334, o334 P) :: (nat_lit 335, o335 P) :: (nat_lit 337, o337 P) :: (nat_lit 338, o338 P) :: (nat_lit 340, o340 P) :: (nat_lit 341, o341 P) :: (nat_lit 342, o342 P) :: (nat_lit 344, o344 P) :: (nat_lit 345, o345 P) :: (nat_lit 347, o347 P) :: (nat_lit 348, o348 P) :: (nat_lit 349, o349 P) :: (nat_lit 351, o351 P) :: (nat_lit 352, o352 P) :: (nat_lit 354, o354 P) :: (nat_lit 355, o355 P) :: (nat_lit 356, o356 P) :: (nat_lit 358, o358 P) :: (nat_lit 359, o359 P) :: (nat_lit 361, o361 P) :: (nat_lit 362, o362 P) :: (nat_lit 363, o363 P) :: (nat_lit 365, o365 P) :: (nat_lit 366, o366 P) :: (nat_lit 368, o368 P) :: (nat_lit 369, o369 P) :: (nat_lit 370, o370 P) :: (nat_lit 371, o371 P) :: (nat_lit 372, o372 P) :: (nat_lit 373, o373 P) :: (nat_lit 374, o374 P) :: (nat_lit 377, o377 P) :: (nat_lit 378, o378 P) :: (nat_lit 380, o380 P) :: (nat_lit 381, o381 P) :: (nat_lit 383, o383 P) :: (nat_lit 384, o384 P) :: (nat_lit 385, o385 P) :: (nat_lit 387, o387 P) :: (nat_lit 388, o388 P) :: (nat_lit 390, o390 P) :: (nat_lit 391, o391 P) :: (nat_lit 392, o392 P) :: (nat_lit 394, o394 P) :: (nat_lit 395, o395 P) :: (nat_lit 397, o397 P) :: (nat_lit 398, o398 P) :: (nat_lit 399, o399 P) :: (nat_lit 401, o401 P) :: (nat_lit 402, o402 P) :: (nat_lit 404, o404 P) :: (nat_lit 405, o405 P) :: (nat_lit 406, o406 P) :: (nat_lit 408, o408 P) :: (nat_lit 409, o409 P) :: (nat_lit 411, o411 P) :: (nat_lit 412, o412 P) :: (nat_lit 413, o413 P) :: (nat_lit 415, o415 P) :: (nat_lit 416, o416 P) :: (nat_lit 418, o418 P) :: (nat_lit 419, o419 P) :: (nat_lit 420, o420 P) :: (nat_lit 422, o422 P) :: (nat_lit 423, o423 P) :: (nat_lit 425, o425 P) :: (nat_lit 426, o426 P) :: (nat_lit 427, o427 P) :: (nat_lit 429, o429 P) :: (nat_lit 430, o430 P) :: (nat_lit 432, o432 P) :: (nat_lit 433, o433 P) :: (nat_lit 434, o434 P) :: (nat_lit 436, o436 P) :: (nat_lit 437, o437 P) :: (nat_lit 439, o439 P) :: (nat_lit 440, o440 P) :: (nat_lit 441, o441 P) :: (nat_lit 443, o443 P) :: (nat_lit 444, o444 P) :: (nat_lit 446, o446 P) :: (nat_lit 447, o447 P) :: (nat_lit 448, o448 P) :: (nat_lit 450, o450 P) :: (nat_lit 451, o451 P) :: (nat_lit 453, o453 P) :: (nat_lit 454, o454 P) :: (nat_lit 455, o455 P) :: (nat_lit 457, o457 P) :: (nat_lit 458, o458 P) :: (nat_lit 460, o460 P) :: (nat_lit 461, o461 P) :: (nat_lit 462, o462 P) :: (nat_lit 464, o464 P) :: (nat_lit 465, o465 P) :: (nat_lit 467, o467 P) :: (nat_lit 468, o468 P) :: (nat_lit 469, o469 P) :: (nat_lit 472, o472 P) :: (nat_lit 473, o473 P) :: (nat_lit 481, o481 P) :: (nat_lit 482, o482 P) :: (nat_lit 484, o484 P) :: (nat_lit 485, o485 P) :: (nat_lit 487, o487 P) :: (nat_lit 488, o488 P) :: (nat_lit 489, o489 P) :: (nat_lit 490, o490 P) :: (nat_lit 492, o492 P) :: (nat_lit 493, o493 P) :: (nat_lit 495, o495 P) :: (nat_lit 496, o496 P) :: (nat_lit 497, o497 P) :: (nat_lit 499, o499 P) :: (nat_lit 500, o500 P) :: (nat_lit 502, o502 P) :: (nat_lit 503, o503 P) :: (nat_lit 504, o504 P) :: (nat_lit 506, o506 P) :: (nat_lit 507, o507 P) :: (nat_lit 509, o509 P) :: (nat_lit 510, o510 P) :: (nat_lit 511, o511 P) :: (nat_lit 513, o513 P) :: (nat_lit 514, o514 P) :: (nat_lit 516, o516 P) :: (nat_lit 517, o517 P) :: (nat_lit 518, o518 P) :: (nat_lit 519, o519 P) :: (nat_lit 521, o521 P) :: (nat_lit 522, o522 P) :: (nat_lit 524, o524 P) :: (nat_lit 525, o525 P) :: (nat_lit 526, o526 P) :: (nat_lit 528, o528 P) :: (nat_lit 529, o529 P) :: (nat_lit 531, o531 P) :: (nat_lit 532, o532 P) :: (nat_lit 533, o533 P) :: (nat_lit 535, o535 P) :: (nat_lit 536, o536 P) :: (nat_lit 538, o538 P) :: (nat_lit 539, o539 P) :: (nat_lit 540, o540 P) :: (nat_lit 542, o542 P) :: (nat_lit 543, o543 P) :: (nat_lit 545, o545 P) :: (nat_lit 546, o546 P) :: (nat_lit 547, o547 P) :: (nat_lit 549, o549 P) :: (nat_lit 550, o550 P) :: (nat_lit 552, o552 P) :: (nat_lit 553, o553 P) :: (nat_lit 554, o554 P) :: (nat_lit 556, o556 P) :: (nat_lit 557, o557 P) :: (nat_lit 559, o559 P) :: (nat_lit 560, o560 P) :: (nat_lit 561, o561 P) :: (nat_lit 562, o562 P) :: (nat_lit 564, o564 P) :: (nat_lit 565, o565 P) :: (nat_lit 567, o567 P) :: (nat_lit 568, o568 P) :: (nat_lit 569, o569 P) :: (nat_lit 571, o571 P) :: (nat_lit 572, o572 P) :: (nat_lit 574, o574 P) :: (nat_lit 575, o575 P) :: (nat_lit 576, o576 P) :: (nat_lit 578, o578 P) :: (nat_lit 579, o579 P) :: (nat_lit 581, o581 P) :: (nat_lit 582, o582 P) :: (nat_lit 583, o583 P) :: (nat_lit 584, o584 P) :: (nat_lit 586, o586 P) :: (nat_lit 587, o587 P) :: (nat_lit 589, o589 P) :: (nat_lit 590, o590 P) :: (nat_lit 591, o591 P) :: (nat_lit 593, o593 P) :: (nat_lit 594, o594 P) :: (nat_lit 596, o596 P) :: (nat_lit 597, o597 P) :: (nat_lit 598, o598 P) :: (nat_lit 600, o600 P) :: (nat_lit 601, o601 P) :: (nat_lit 603, o603 P) :: (nat_lit 604, o604 P) :: (nat_lit 605, o605 P) :: (nat_lit 607, o607 P) :: (nat_lit 608, o608 P) :: (nat_lit 610, o610 P) :: (nat_lit 611, o611 P) :: (nat_lit 612, o612 P) :: (nat_lit 614, o614 P) :: (nat_lit 615, o615 P) :: (nat_lit 617, o617 P) :: (nat_lit 618, o618 P) :: (nat_lit 619, o619 P) :: (nat_lit 621, o621 P) :: (nat_lit 622, o622 P) :: (nat_lit 624, o624 P) :: (nat_lit 625, o625 P) :: (nat_lit 626, o626 P) :: (nat_lit 628, o628 P) :: (nat_lit 629, o629 P) :: (nat_lit 631, o631 P) :: (nat_lit 632, o632 P) :: (nat_lit 633, o633 P) :: (nat_lit 635, o635 P) :: (nat_lit 636, o636 P) :: (nat_lit 638, o638 P) :: (nat_lit 639, o639 P) :: (nat_lit 640, o640 P) :: (nat_lit 641, o641 P) :: (nat_lit 642, o642 P) :: (nat_lit 643, o643 P) :: (nat_lit 644, o644 P) :: (nat_lit 654, o654 P) :: (nat_lit 655, o655 P) :: (nat_lit 656, o656 P) :: (nat_lit 658, o658 P) :: (nat_lit 659, o659 P) :: (nat_lit 661, o661 P) :: (nat_lit 662, o662 P) :: (nat_lit 663, o663 P) :: (nat_lit 665, o665 P) :: (nat_lit 666, o666 P) :: (nat_lit 668, o668 P) :: (nat_lit 669, o669 P) :: (nat_lit 670, o670 P) :: (nat_lit 671, o671 P) :: (nat_lit 672, o672 P) :: (nat_lit 673, o673 P) :: (nat_lit 674, o674 P) :: (nat_lit 677, o677 P) :: (nat_lit 680, o680 P) :: (nat_lit 681, o681 P) :: (nat_lit 682, o682 P) :: (nat_lit 684, o684 P) :: (nat_lit 685, o685 P) :: (nat_lit 687, o687 P) :: (nat_lit 688, o688 P) :: (nat_lit 689, o689 P) :: (nat_lit 691, o691 P) :: (nat_lit 692, o692 P) :: (nat_lit 694, o694 P) :: (nat_lit 695, o695 P) :: (nat_lit 696, o696 P) :: (nat_lit 699, o699 P) :: (nat_lit 700, o700 P) :: (nat_lit 701, o701 P) :: (nat_lit 704, o704 P) :: (nat_lit 705, o705 P) :: (nat_lit 706, o706 P) :: (nat_lit 708, o708 P) :: (nat_lit 709, o709 P) :: (nat_lit 711, o711 P) :: (nat_lit 712, o712 P) :: (nat_lit 713, o713 P) :: (nat_lit 715, o715 P) :: (nat_lit 716, o716 P) :: (nat_lit 718, o718 P) :: (nat_lit 719, o719 P) :: (nat_lit 720, o720 P) :: (nat_lit 722, o722 P) :: (nat_lit 723, o723 P) :: (nat_lit 725, o725 P) :: (nat_lit 726, o726 P) :: (nat_lit 727, o727 P) :: (nat_lit 729, o729 P) :: (nat_lit 730, o730 P) :: (nat_lit 732, o732 P) :: (nat_lit 733, o733 P) :: (nat_lit 734, o734 P) :: (nat_lit 736, o736 P) :: (nat_lit 737, o737 P) :: (nat_lit 739, o739 P) :: (nat_lit 740, o740 P) :: (nat_lit 741, o741 P) :: (nat_lit 743, o743 P) :: (nat_lit 744, o744 P) :: (nat_lit 746, o746 P) :: (nat_lit 747, o747 P) :: (nat_lit 748, o748 P) :: (nat_lit 751, o751 P) :: (nat_lit 752, o752 P) :: []
noncomputable def as : List Addr := [2, 3, 15, 17, 18, 20, 21, 22, 29, 30, 31, 33, 34, 36, 37, 38, 40, 41, 43, 44, 45, 46, 47, 48, 51, 58, 59, 60, 63, 70, 71, 72, 75, 77, 78, 80, 81, 82, 83, 85, 86, 88, 89, 90, 92, 93, 95, 96, 97, 99, 100, 102, 103, 104, 106, 107, 109, 110, 111, 113, 114, 116, 117, 118, 120, 121, 123, 124, 125, 127, 128, 130, 131, 132, 133, 135, 136, 138, 139, 140, 142, 143, 145, 146, 147, 149, 150, 152, 153, 154, 156, 157, 159, 160, 161, 163, 164, 166, 167, 168, 170, 171, 173, 174, 175, 177, 178, 180, 181, 182, 184, 185, 187, 188, 189, 191, 192, 194, 195, 196, 198, 199, 201, 202, 203, 205, 206, 208, 209, 210, 212, 213, 215, 216, 217, 219, 220, 222, 223, 224, 226, 227, 229, 230, 231, 233, 234, 236, 237, 238, 239, 240, 241, 242, 243, 244, 246, 247, 249, 250, 251, 253, 254, 256, 257, 258, 260, 261, 263, 264, 265, 267, 268, 270, 271, 272, 274, 275, 277, 278, 286, 288, 289, 291, 292, 293, 295, 296, 298, 299, 300, 302, 303, 305, 306, 307, 309, 310, 312, 313, 314, 316, 317, 319, 320, 321, 323, 324, 326, 327, 328, 330, 331, 333, 334, 335, 337, 338, 340, 341, 342, 344, 345, 347, 348, 349, 351, 352, 354, 355, 356, 358, 359, 361, 362, 363, 365, 366, 368, 369, 370, 371, 372, 373, 374, 377, 378, 380, 381, 383, 384, 385, 387, 388, 390, 391, 392, 394, 395, 397, 398, 399, 401, 402, 404, 405, 406, 408, 409, 411, 412, 413, 415, 416, 418, 419, 420, 422, 423, 425, 426, 427, 429, 430, 432, 433, 434, 436, 437, 439, 440, 441, 443, 444, 446, 447, 448, 450, 451, 453, 454, 455, 457, 458, 460, 461, 462, 464, 465, 467, 468, 469, 472, 473, 481, 482, 484, 485, 487, 488, 489, 490, 492, 493, 495, 496, 497, 499, 500, 502, 503, 504, 506, 507, 509, 510, 511, 513, 514, 516, 517, 518, 519, 521, 522, 524, 525, 526, 528, 529, 531, 532, 533, 535, 536, 538, 539, 540, 542, 543, 545, 546, 547, 549, 550, 552, 553, 554, 556, 557, 559, 560, 561, 562, 564, 565, 567, 568, 569, 571, 572, 574, 575, 576, 578, 579, 581, 582, 583, 584, 586, 587, 589, 590, 591, 593, 594, 596, 597, 598, 600, 601, 603, 604, 605, 607, 608, 610, 611, 612, 614, 615, 617, 618, 619, 621, 622, 624, 625, 626, 628, 629, 631, 632, 633, 635, 636, 638, 639, 640, 641, 642, 643, 644, 654, 655, 656, 658, 659, 661, 662, 663, 665, 666, 668, 669, 670, 671, 672, 673, 674, 677, 680, 681, 682, 684, 685, 687, 688, 689, 691, 692, 694, 695, 696, 699, 700, 701, 704, 705, 706, 708, 709, 711, 712, 713, 715, 716, 718, 719, 720, 722, 723, 725, 726, 727, 729, 730, 732, 733, 734, 736, 737, 739, 740, 741, 743, 744, 746, 747, 748, 751, 752]
/-- the objects at the given places of a list, in rising order -/
noncomputable def pick : Nat → List Obj → List Nat → List (Nat × Obj)
  | _, _, [] => []
  | _, [], _ => []
  | i, o :: l, a :: r => match Nat.beq i a with
    | true => (a, o) :: pick (i + 1) l r
    | false => pick (i + 1) l (a :: r)
theorem pick_at : ∀ (l : List Obj) (i : Nat) (r : List Nat), ∀ p ∈ pick i l r, i ≤ p.1 ∧ l[p.1 - i]? = some p.2
  | _, _, [], p, h => by unfold pick at h; cases h
  | [], _, _ :: _, p, h => by unfold pick at h; cases h
  | o :: l, i, a :: r, p, h => by
    unfold pick at h
    split at h
    · rename_i e
      rcases List.mem_cons.mp h with rfl | h
      · have := Nat.eq_of_beq_eq_true e
        subst this
        exact ⟨Nat.le_refl _, by simp⟩
      · have ⟨h1, h2⟩ := pick_at l (i + 1) r p h
        refine ⟨by omega, ?_⟩
        rw [show p.1 - i = (p.1 - (i + 1)) + 1 from (Nat.succ_pred_eq_of_pos (Nat.sub_pos_of_lt h1)).symm, List.getElem?_cons_succ]; exact h2
    · have ⟨h1, h2⟩ := pick_at l (i + 1) (a :: r) p h
      refine ⟨by omega, ?_⟩
      rw [show p.1 - i = (p.1 - (i + 1)) + 1 from (Nat.succ_pred_eq_of_pos (Nat.sub_pos_of_lt h1)).symm, List.getElem?_cons_succ]; exact h2
theorem obs_of {l : List Obj} {life : Life} {as : List Nat} {K : List (Nat × Obj)} (e : pick 0 l as = K) (h1 : K.map (·.1) = as) (h2 : K.all (fun p => !p.2.isFreed) = true) :
    as.map (Heap.mk (Array.mk l) life).get? = K.map fun p => some p.2 := by
  rw [← h1, List.map_map]
  refine List.map_congr_left fun p hp => ?_
  have ⟨_, hx⟩ := pick_at l 0 as p (e ▸ hp)
  have hf := List.all_eq_true.mp h2 p hp
  show (Heap.mk (Array.mk l) life).get? p.1 = some p.2
  unfold Heap.get?
  rw [Nat.sub_zero] at hx
  have : (Array.mk l)[p.1]? = some p.2 := by simpa using hx
  rw [this]
  revert hf
  generalize p.2 = o
  intro hf
  obtain ⟨c, dd, dt, sl⟩ := o
  cases dt <;> first | rfl | (simp [Obj.isFreed] at hf)
theorem as_is (P : Params) : as = (K P).map (·.1) := by kernel_rfl
theorem K_is (P : Params) : pick 0 (objsF P) as = K P := by kernel_rfl
theorem K_alive (P : Params) : (K P).all (fun p => !p.2.isFreed) = true := by kernel_rfl
noncomputable abbrev H : Hook := kmHook K as as_is [232, 379, 735]
theorem obs_ok (w : World) (os : OsState) : H.obs (sF w os) = H.val w := by
  refine Prod.ext ?_ ?_
  · show as.map (Heap.mk (Array.mk (objsF w.params)) _).get? = _
    exact obs_of (K_is w.params) (as_is w.params).symm (K_alive w.params)
  · show ([232, 379, 735] : List Nat).map (hF w.params).get? = _
    kernel_rfl
theorem size_ok (w : World) : ((boot_heap w.params).isNs mainGlobals && (Array.mk [] : Array GenState).size == 0, (boot_heap w.params).objs.size, (boot_heap w.params).nsMap mainGlobals "__annotations__") = (true, 11, ann) := by kernel_rfl
theorem look1 (w : World) (os : OsState) : (staticsOk (importedModules pw.main.body) (boot_heap w.params) (hF w.params) && namesBound pw (hF w.params) && gensDone (sF w os) && laidKept (boot_heap w.params) (hF w.params)) = true := by kernel_rfl
theorem look2a (w : World) (os : OsState) : seen ((recsOf q).map (·.name)) (ownsOf q) [] { sF w os with gens := #[] } = expectedOf q := by
  rw [PySem.W.Fast.te5160383126252970620, PySem.W.Fast.te3399658132070893891]
  kernel_rfl
noncomputable abbrev R : OpenRow := PySem.Challenge.rw_pb0281_01.row
noncomputable abbrev Xt : Shared → Bool := fun s => xlAt q [] s && recOk (RowW.records R.toRowW) s
theorem look2b (w : World) (os : OsState) : (sF w os).heap.bltView = bltViewBooted := by kernel_rfl
theorem look2c (w : World) (os : OsState) : ((sF w os).heap.keysOk (looseW q loose) ((recsOf q).map (·.name)) ((litsOf q).map (·.1)) ((clssOf q (looseW q loose)).map (·.name)) && (sF w os).heap.accountedOkI (importedModules pw.main.body) && (sF w os).heap.isNs mainGlobals && (sF w os).heap.isNs builtinsNs && tablesOk q (sF w os).heap && Xt (sF w os) && (if true then (sF w os).gens.size == 0 else !leftWithCleanup (sF w os).gens)) = true := by
  rw [PySem.W.Fast.te10880121769531294198]
  kernel_rfl
theorem look2d (w : World) (os : OsState) : tabsOk q (sF w os) = true := by
  rw [PySem.W.Fast.te479339242167458305]
  kernel_rfl
theorem look2e (w : World) (os : OsState) : pinSeenD q (drecsOf q) (sF w os) = pinGoodD (drecsOf q) := by kernel_rfl
theorem look2f (w : World) (os : OsState) : plainSeenE q (looseW q loose) (sF w os) = plainGoodE q (looseW q loose) := by kernel_rfl
theorem look2g (w : World) (os : OsState) : plainSeenD q loose (sF w os) = plainGoodD q loose := by kernel_rfl
theorem look2h (w : World) (os : OsState) : wideSeen q (sF w os) = wideGood q := by kernel_rfl
theorem look2i (w : World) (os : OsState) : clsSeenW q loose (sF w os) = clsGoodW q loose := by kernel_rfl
theorem open_ok : ∀ w : World, (fencedOpening treeTable pw w 10000).map (fun s => (s.heap, s.gens, s.drawn, s.toks)) = some (boot_heap w.params, Array.mk [], boot_drawn, boot_toks) :=
  boot_open (p := pw) (N := 10000) (by kernel_rfl) (by rfl) (fun _ => by kernel_rfl)
theorem left : LeftO R.prog q loose Xt H.obs H.val 10000 :=
  LeftO.of_pieces (p := pw) (N := 10000) (H₀ := boot_heap) (H₁ := hF) (gs₀ := Array.mk []) (gs₁ := #[]) (d₀ := boot_drawn) (d₁ := {}) (k₀ := boot_toks) (k₁ := 1260) (m₀ := 11) (ann := ann) open_ok size_ok run_ok (by rfl) fun w => funext fun os => by
    refine Prod.ext ?_ (Prod.ext ?_ ?_)
    · exact look1 w os
    · refine Prod.ext ?_ (Prod.ext ?_ (Prod.ext ?_ (Prod.ext ?_ (Prod.ext ?_ (Prod.ext ?_ (Prod.ext ?_ (Prod.ext ?_ ?_)))))))
      · exact look2a w os
      · exact look2b w os
      · exact look2c w os
      · exact look2d w os
      · exact look2e w os
      · exact look2f w os
      · exact look2g w os
      · exact look2h w os
      · exact look2i w os
    · exact obs_ok w os

end
end Mine
end
section
open PySem PySem.W PySem.W.X PyProof.Rows
namespace Mine
theorem both_on {a b : Bool} (x : a = true) (y : b = true) : (a && b) = true := by rw [x, y]; rfl
theorem ls_assign (lk : Look) (ts : List Expr) (v : Expr) (p : Pos) : noRoadLS lk (.Assign ts v p) = (lk.stores ts && noRoadLs lk ts && noRoadL lk v) := rfl
theorem l_cons (lk : Look) (e : Expr) (r : List Expr) : noRoadLs lk (e :: r) = (noRoadL lk e && noRoadLs lk r) := rfl
theorem l_nil (lk : Look) : noRoadLs lk [] = true := rfl
theorem l_name (lk : Look) (n : Str) (p : Pos) : noRoadL lk (.Name n p) = lk.name n := rfl
theorem l_str (lk : Look) (x : Str) (k : Nat) (p : Pos) : noRoadL lk (.Constant (.str x) k p) = lk.str x := rfl
theorem lss_cons (lk : Look) (s : Stmt) (r : List Stmt) : noRoadLSs lk (s :: r) = (noRoadLS lk s && noRoadLSs lk r) := rfl
theorem lss_nil (lk : Look) : noRoadLSs lk [] = true := rfl
theorem noRoadLSs_append (lk : Look) : ∀ (a b : List Stmt), noRoadLSs lk a = true → noRoadLSs lk b = true → noRoadLSs lk (a ++ b) = true
  | [], _, _, h => h
  | s :: r, b, h, k => by
    rw [List.cons_append]
    have h' : (noRoadLS lk s && noRoadLSs lk r) = true := h
    show (noRoadLS lk s && noRoadLSs lk (r ++ b)) = true
    exact both_on (Bool.and_eq_true_iff.mp h').1 (noRoadLSs_append lk r b (Bool.and_eq_true_iff.mp h').2 k)
theorem contains_long {x : Str} {l : List Str} (h : l.all (fun y => decide (y.cps.size < 100)) = true) (hx : decide (100 ≤ x.cps.size) = true) : l.contains x = false := by
  rw [Bool.eq_false_iff]
  intro q
  have m := List.contains_iff_mem.mp q
  have := List.all_eq_true.mp h x m
  rw [decide_eq_true_eq] at this hx
  omega
theorem str_long (lk : Look) (x : Str) (s : String) (e : x = Str.ofString s) (hb : lk.but = none) (hf : lk.foot = none) (hx : decide (100 ≤ (Str.ofString s).cps.size) = true)
    (h0 : (!(Str.ofString s).opensWith "__") = true) (h1 : (Str.ofString s).cps.toList.all (fun c => !Nat.beq c 123 && (!Nat.beq c 125 && !Nat.beq c 46)) = true)
    (h2 : frameAttrs.all (fun y => decide (y.cps.size < 100)) = true)
    (h3 : (["__dict__", "__getstate__", "__getattribute__", "__reduce__", "__reduce_ex__"] : List Str).all (fun y => decide (y.cps.size < 100)) = true) : lk.str x = true := by
  rw [← e] at hx h0 h1
  have h0 : x.opensWith "__" = false := by simpa using h0
  have h1 : roadStr x = false := by
    have e (p : Nat → Bool) (hp : ∀ c ∈ x.cps.toList, p c = false) : x.cps.any p = false := by
      rw [← Array.any_toList, List.any_eq_false]
      intro c hc; rw [hp c hc]; exact Bool.false_ne_true
    have a := List.all_eq_true.mp h1
    unfold roadStr
    rw [e _ fun c hc => ?_, e (· == 46) fun c hc => ?_]
    · rfl
    · have := a c hc
      simp only [Bool.and_eq_true, Bool.not_eq_true'] at this
      simpa using Nat.ne_of_beq_eq_false this.2.2
    · have := a c hc
      simp only [Bool.and_eq_true, Bool.not_eq_true'] at this
      simpa using ⟨Nat.ne_of_beq_eq_false this.1, Nat.ne_of_beq_eq_false this.2.1⟩
  unfold Look.str Look.word attrL
  rw [hb, hf, h0, h1, contains_long h2 hx, contains_long h3 hx]
  simp
theorem strict_is : (!(importedModules PySem.Challenge.pw_pb0281_01.main.body).all cThrough.contains) = false := by kernel_rfl
theorem bare_is : (["vars", "dir", "locals"] : List Str).filter (readsOut PySem.Challenge.pw_pb0281_01 PySem.Challenge.pw_pb0281_01.main.body) = [] := by kernel_rfl
theorem above64 : noRoadLSs { strict := false, foot := none, bare := [] } (PySem.Challenge.pw_pb0281_01.main.body.take 64) = true := by kernel_rfl
theorem below64 : noRoadLSs { strict := false, foot := none, bare := [] } (PySem.Challenge.pw_pb0281_01.main.body.drop 65) = true := by kernel_rfl
theorem at64 : (PySem.Challenge.pw_pb0281_01.main.body.drop 64).take 1 = [PySem.Stmt.Assign
            (targets := [(PySem.Expr.Name "RESERVED" ⟨401, 0, 401, 8⟩)])
            (value := (PySem.Expr.Constant
              (value := (PySem.Const.str
                resv))
              (k := 0)
              (pos := ⟨401, 11, 401, 1873⟩)))
            (pos := ⟨401, 0, 401, 1873⟩)] := by kernel_rfl
theorem body_parts : PySem.Challenge.pw_pb0281_01.main.body = PySem.Challenge.pw_pb0281_01.main.body.take 64 ++ (PySem.Challenge.pw_pb0281_01.main.body.drop 64).take 1 ++ PySem.Challenge.pw_pb0281_01.main.body.drop 65 := by
  generalize PySem.Challenge.pw_pb0281_01.main.body = b
  rw [List.append_assoc, show b.drop 65 = (b.drop 64).drop 1 by rw [List.drop_drop], List.take_append_drop, List.take_append_drop]
set_option maxHeartbeats 2000000 in
theorem look64 : noRoadLSs { strict := false, foot := none, bare := [] } ((PySem.Challenge.pw_pb0281_01.main.body.drop 64).take 1) = true := by
  rw [at64, lss_cons, ls_assign, l_cons, l_nil, l_name, l_str, lss_nil]
  refine both_on (both_on (both_on ?_ ?_) ?_) rfl
  · rfl
  · kernel_rfl
  · exact str_long _ _ _ (by rfl) rfl rfl (by k_qdec) (by k_qdec) (by k_qdec) (by k_qdec) (by k_qdec)
theorem looked : noRoadLSs { strict := !(importedModules PySem.Challenge.pw_pb0281_01.main.body).all cThrough.contains, foot := none, bare := (["vars", "dir", "locals"] : List Str).filter (readsOut PySem.Challenge.pw_pb0281_01 PySem.Challenge.pw_pb0281_01.main.body) } PySem.Challenge.pw_pb0281_01.main.body = true := by
  rw [strict_is, bare_is, body_parts]
  exact noRoadLSs_append _ _ _ (noRoadLSs_append _ _ _ above64 look64) below64
end Mine
open PySem PySem.W PySem.W.X PyProof.Rows
namespace Mine
theorem prog_is : PySem.Challenge.rw_pb0281_01.row.prog = PySem.Challenge.pw_pb0281_01 := rfl
theorem looked2 : noRoadLSs { strict := !(importedModules PySem.Challenge.rw_pb0281_01.row.prog.main.body).all cThrough.contains, foot := none, bare := (["vars", "dir", "locals"] : List Str).filter (readsOut PySem.Challenge.rw_pb0281_01.row.prog PySem.Challenge.rw_pb0281_01.row.prog.main.body) } PySem.Challenge.rw_pb0281_01.row.prog.main.body = true := by
  rw [prog_is]; exact looked
set_option maxHeartbeats 0 in
theorem well : PySem.Challenge.rw_pb0281_01.wellSaid = true := by
  unfold OpenLaw.wellSaid OpenRow.wellSaid OpenRow.partSaid looksOpen
  repeat' (with_reducible refine look_both ?_ ?_)
  all_goals first | (with_reducible exact looked2) | kernel_rfl
theorem tabs1 : PySem.Challenge.rw_pb0281_01.row.prog.tablesWhole = true := by decide +kernel
end Mine
end
section
open PySem PySem.W PySem.Calls PyProof.Rows PySem.Spec
open PySem.Str (ofString)
namespace Mine
theorem f30 (w : World) : (K w.params).lookup 30 = some (o30 w.params) := by kernel_rfl
theorem f37 (w : World) : (K w.params).lookup 37 = some (o37 w.params) := by kernel_rfl
theorem f72 (w : World) : (K w.params).lookup 72 = some (o72 w.params) := by kernel_rfl
theorem f82 (w : World) : (K w.params).lookup 82 = some (o82 w.params) := by kernel_rfl
theorem f89 (w : World) : (K w.params).lookup 89 = some (o89 w.params) := by kernel_rfl
theorem f124 (w : World) : (K w.params).lookup 124 = some (o124 w.params) := by kernel_rfl
theorem f131 (w : World) : (K w.params).lookup 131 = some (o131 w.params) := by kernel_rfl
theorem f139 (w : World) : (K w.params).lookup 139 = some (o139 w.params) := by kernel_rfl
theorem f160 (w : World) : (K w.params).lookup 160 = some (o160 w.params) := by kernel_rfl
theorem f174 (w : World) : (K w.params).lookup 174 = some (o174 w.params) := by kernel_rfl
theorem f181 (w : World) : (K w.params).lookup 181 = some (o181 w.params) := by kernel_rfl
theorem f188 (w : World) : (K w.params).lookup 188 = some (o188 w.params) := by kernel_rfl
theorem f195 (w : World) : (K w.params).lookup 195 = some (o195 w.params) := by kernel_rfl
theorem f202 (w : World) : (K w.params).lookup 202 = some (o202 w.params) := by kernel_rfl
theorem f209 (w : World) : (K w.params).lookup 209 = some (o209 w.params) := by kernel_rfl
theorem f216 (w : World) : (K w.params).lookup 216 = some (o216 w.params) := by kernel_rfl
theorem f230 (w : World) : (K w.params).lookup 230 = some (o230 w.params) := by kernel_rfl
theorem f237 (w : World) : (K w.params).lookup 237 = some (o237 w.params) := by kernel_rfl
theorem f239 (w : World) : (K w.params).lookup 239 = some (o239 w.params) := by kernel_rfl
theorem f242 (w : World) : (K w.params).lookup 242 = some (o242 w.params) := by kernel_rfl
theorem f243 (w : World) : (K w.params).lookup 243 = some (o243 w.params) := by kernel_rfl
theorem f250 (w : World) : (K w.params).lookup 250 = some (o250 w.params) := by kernel_rfl
theorem f257 (w : World) : (K w.params).lookup 257 = some (o257 w.params) := by kernel_rfl
theorem f264 (w : World) : (K w.params).lookup 264 = some (o264 w.params) := by kernel_rfl
theorem f271 (w : World) : (K w.params).lookup 271 = some (o271 w.params) := by kernel_rfl
theorem f278 (w : World) : (K w.params).lookup 278 = some (o278 w.params) := by kernel_rfl
theorem f292 (w : World) : (K w.params).lookup 292 = some (o292 w.params) := by kernel_rfl
theorem f299 (w : World) : (K w.params).lookup 299 = some (o299 w.params) := by kernel_rfl
theorem f306 (w : World) : (K w.params).lookup 306 = some (o306 w.params) := by kernel_rfl
theorem f313 (w : World) : (K w.params).lookup 313 = some (o313 w.params) := by kernel_rfl
theorem f320 (w : World) : (K w.params).lookup 320 = some (o320 w.params) := by kernel_rfl
theorem f327 (w : World) : (K w.params).lookup 327 = some (o327 w.params) := by kernel_rfl
theorem f334 (w : World) : (K w.params).lookup 334 = some (o334 w.params) := by kernel_rfl
theorem f355 (w : World) : (K w.params).lookup 355 = some (o355 w.params) := by kernel_rfl
theorem f362 (w : World) : (K w.params).lookup 362 = some (o362 w.params) := by kernel_rfl
theorem f369 (w : World) : (K w.params).lookup 369 = some (o369 w.params) := by kernel_rfl
theorem f377 (w : World) : (K w.params).lookup 377 = some (o377 w.params) := by kernel_rfl
theorem f384 (w : World) : (K w.params).lookup 384 = some (o384 w.params) := by kernel_rfl
theorem f391 (w : World) : (K w.params).lookup 391 = some (o391 w.params) := by kernel_rfl
theorem f398 (w : World) : (K w.params).lookup 398 = some (o398 w.params) := by kernel_rfl
theorem f405 (w : World) : (K w.params).lookup 405 = some (o405 w.params) := by kernel_rfl
theorem f412 (w : World) : (K w.params).lookup 412 = some (o412 w.params) := by kernel_rfl
theorem f419 (w : World) : (K w.params).lookup 419 = some (o419 w.params) := by kernel_rfl
theorem f426 (w : World) : (K w.params).lookup 426 = some (o426 w.params) := by kernel_rfl
theorem f433 (w : World) : (K w.params).lookup 433 = some (o433 w.params) := by kernel_rfl
theorem f440 (w : World) : (K w.params).lookup 440 = some (o440 w.params) := by kernel_rfl
theorem f447 (w : World) : (K w.params).lookup 447 = some (o447 w.params) := by kernel_rfl
theorem f454 (w : World) : (K w.params).lookup 454 = some (o454 w.params) := by kernel_rfl
theorem f461 (w : World) : (K w.params).lookup 461 = some (o461 w.params) := by kernel_rfl
theorem f468 (w : World) : (K w.params).lookup 468 = some (o468 w.params) := by kernel_rfl
theorem f481 (w : World) : (K w.params).lookup 481 = some (o481 w.params) := by kernel_rfl
theorem f488 (w : World) : (K w.params).lookup 488 = some (o488 w.params) := by kernel_rfl
theorem f489 (w : World) : (K w.params).lookup 489 = some (o489 w.params) := by kernel_rfl
theorem f496 (w : World) : (K w.params).lookup 496 = some (o496 w.params) := by kernel_rfl
theorem f510 (w : World) : (K w.params).lookup 510 = some (o510 w.params) := by kernel_rfl
theorem f517 (w : World) : (K w.params).lookup 517 = some (o517 w.params) := by kernel_rfl
theorem f518 (w : World) : (K w.params).lookup 518 = some (o518 w.params) := by kernel_rfl
theorem f525 (w : World) : (K w.params).lookup 525 = some (o525 w.params) := by kernel_rfl
theorem f532 (w : World) : (K w.params).lookup 532 = some (o532 w.params) := by kernel_rfl
theorem f539 (w : World) : (K w.params).lookup 539 = some (o539 w.params) := by kernel_rfl
theorem f546 (w : World) : (K w.params).lookup 546 = some (o546 w.params) := by kernel_rfl
theorem f553 (w : World) : (K w.params).lookup 553 = some (o553 w.params) := by kernel_rfl
theorem f561 (w : World) : (K w.params).lookup 561 = some (o561 w.params) := by kernel_rfl
theorem f568 (w : World) : (K w.params).lookup 568 = some (o568 w.params) := by kernel_rfl
theorem f575 (w : World) : (K w.params).lookup 575 = some (o575 w.params) := by kernel_rfl
theorem f583 (w : World) : (K w.params).lookup 583 = some (o583 w.params) := by kernel_rfl
theorem f590 (w : World) : (K w.params).lookup 590 = some (o590 w.params) := by kernel_rfl
theorem f597 (w : World) : (K w.params).lookup 597 = some (o597 w.params) := by kernel_rfl
theorem f604 (w : World) : (K w.params).lookup 604 = some (o604 w.params) := by kernel_rfl
theorem f611 (w : World) : (K w.params).lookup 611 = some (o611 w.params) := by kernel_rfl
theorem f618 (w : World) : (K w.params).lookup 618 = some (o618 w.params) := by kernel_rfl
theorem f655 (w : World) : (K w.params).lookup 655 = some (o655 w.params) := by kernel_rfl
theorem f662 (w : World) : (K w.params).lookup 662 = some (o662 w.params) := by kernel_rfl
theorem f681 (w : World) : (K w.params).lookup 681 = some (o681 w.params) := by kernel_rfl
theorem f688 (w : World) : (K w.params).lookup 688 = some (o688 w.params) := by kernel_rfl
theorem f695 (w : World) : (K w.params).lookup 695 = some (o695 w.params) := by kernel_rfl
theorem f700 (w : World) : (K w.params).lookup 700 = some (o700 w.params) := by kernel_rfl
theorem f705 (w : World) : (K w.params).lookup 705 = some (o705 w.params) := by kernel_rfl
theorem f712 (w : World) : (K w.params).lookup 712 = some (o712 w.params) := by kernel_rfl
theorem f719 (w : World) : (K w.params).lookup 719 = some (o719 w.params) := by kernel_rfl
theorem f726 (w : World) : (K w.params).lookup 726 = some (o726 w.params) := by kernel_rfl
theorem f733 (w : World) : (K w.params).lookup 733 = some (o733 w.params) := by kernel_rfl
theorem f740 (w : World) : (K w.params).lookup 740 = some (o740 w.params) := by kernel_rfl
theorem f747 (w : World) : (K w.params).lookup 747 = some (o747 w.params) := by kernel_rfl
theorem f752 (w : World) : (K w.params).lookup 752 = some (o752 w.params) := by kernel_rfl
theorem gl_GrammarFault (w : World) : nsIn (K w.params) mainGlobals "GrammarFault" = some (some (r 72)) := by kernel_rfl
theorem gl_FIGURES (w : World) : nsIn (K w.params) mainGlobals "FIGURES" = some (some (v "0123456789" 270)) := by kernel_rfl
theorem gl_decimal (w : World) : nsIn (K w.params) mainGlobals "decimal" = some (some (r 89)) := by kernel_rfl
theorem gl_negated (w : World) : nsIn (K w.params) mainGlobals "negated" = some (some (r 96)) := by kernel_rfl
theorem gl_worth_of (w : World) : nsIn (K w.params) mainGlobals "worth_of" = some (some (r 124)) := by kernel_rfl
theorem gl_read_decimal (w : World) : nsIn (K w.params) mainGlobals "read_decimal" = some (some (r 131)) := by kernel_rfl
theorem gl_FIGURE_NAMES (w : World) : nsIn (K w.params) mainGlobals "FIGURE_NAMES" = some (some (r 132)) := by kernel_rfl
theorem gl_is_part_next (w : World) : nsIn (K w.params) mainGlobals "is_part_next" = some (some (r 139)) := by kernel_rfl
theorem gl_read_ref (w : World) : nsIn (K w.params) mainGlobals "read_ref" = some (some (r 160)) := by kernel_rfl
theorem gl_read_figure (w : World) : nsIn (K w.params) mainGlobals "read_figure" = some (some (r 174)) := by kernel_rfl
theorem gl_read_operand (w : World) : nsIn (K w.params) mainGlobals "read_operand" = some (some (r 181)) := by kernel_rfl
theorem gl_MOST_DEEP_expressions (w : World) : nsIn (K w.params) mainGlobals "MOST_DEEP_expressions" = some (some (.int 20 447)) := by kernel_rfl
theorem gl_read_expression (w : World) : nsIn (K w.params) mainGlobals "read_expression" = some (some (r 188)) := by kernel_rfl
theorem gl_sign_among (w : World) : nsIn (K w.params) mainGlobals "sign_among" = some (some (r 195)) := by kernel_rfl
theorem gl_read_sum (w : World) : nsIn (K w.params) mainGlobals "read_sum" = some (some (r 202)) := by kernel_rfl
theorem gl_read_product (w : World) : nsIn (K w.params) mainGlobals "read_product" = some (some (r 209)) := by kernel_rfl
theorem gl_read_factor (w : World) : nsIn (K w.params) mainGlobals "read_factor" = some (some (r 216)) := by kernel_rfl
theorem gl_is_lone_number (w : World) : nsIn (K w.params) mainGlobals "is_lone_number" = some (some (r 223)) := by kernel_rfl
theorem gl_read_power (w : World) : nsIn (K w.params) mainGlobals "read_power" = some (some (r 230)) := by kernel_rfl
theorem gl_read_primary (w : World) : nsIn (K w.params) mainGlobals "read_primary" = some (some (r 237)) := by kernel_rfl
theorem gl_MOST_DEEP_conditions (w : World) : nsIn (K w.params) mainGlobals "MOST_DEEP_conditions" = some (some (.int 20 526)) := by kernel_rfl
theorem gl_OPPOSITES (w : World) : nsIn (K w.params) mainGlobals "OPPOSITES" = some (some (r 238)) := by kernel_rfl
theorem gl_CLASSES (w : World) : nsIn (K w.params) mainGlobals "CLASSES" = some (some (r 239)) := by kernel_rfl
theorem gl_WORDS_OF_SIGNS (w : World) : nsIn (K w.params) mainGlobals "WORDS_OF_SIGNS" = some (some (r 240)) := by kernel_rfl
theorem gl_WORDS_OF_RELATIONS (w : World) : nsIn (K w.params) mainGlobals "WORDS_OF_RELATIONS" = some (some (r 241)) := by kernel_rfl
theorem gl_RELATIONS (w : World) : nsIn (K w.params) mainGlobals "RELATIONS" = some (some (r 242)) := by kernel_rfl
theorem gl_word_here (w : World) : nsIn (K w.params) mainGlobals "word_here" = some (some (r 250)) := by kernel_rfl
theorem gl_is_relation_at (w : World) : nsIn (K w.params) mainGlobals "is_relation_at" = some (some (r 257)) := by kernel_rfl
theorem gl_place_of_word (w : World) : nsIn (K w.params) mainGlobals "place_of_word" = some (some (r 264)) := by kernel_rfl
theorem gl_is_predicate_here (w : World) : nsIn (K w.params) mainGlobals "is_predicate_here" = some (some (r 271)) := by kernel_rfl
theorem gl_is_bare_relation_here (w : World) : nsIn (K w.params) mainGlobals "is_bare_relation_here" = some (some (r 278)) := by kernel_rfl
theorem gl_ConditionReader (w : World) : nsIn (K w.params) mainGlobals "ConditionReader" = some (some (r 372)) := by kernel_rfl
theorem gl_read_condition (w : World) : nsIn (K w.params) mainGlobals "read_condition" = some (some (r 384)) := by kernel_rfl
theorem gl_word_ahead (w : World) : nsIn (K w.params) mainGlobals "word_ahead" = some (some (r 391)) := by kernel_rfl
theorem gl_phrase_words (w : World) : nsIn (K w.params) mainGlobals "phrase_words" = some (some (r 398)) := by kernel_rfl
theorem gl_opening_length (w : World) : nsIn (K w.params) mainGlobals "opening_length" = some (some (r 405)) := by kernel_rfl
theorem gl_body_here (w : World) : nsIn (K w.params) mainGlobals "body_here" = some (some (r 412)) := by kernel_rfl
theorem gl_branches_here (w : World) : nsIn (K w.params) mainGlobals "branches_here" = some (some (r 419)) := by kernel_rfl
theorem gl_ref_here (w : World) : nsIn (K w.params) mainGlobals "ref_here" = some (some (r 426)) := by kernel_rfl
theorem gl_refuse_at (w : World) : nsIn (K w.params) mainGlobals "refuse_at" = some (some (r 433)) := by kernel_rfl
theorem gl_is_key_condition (w : World) : nsIn (K w.params) mainGlobals "is_key_condition" = some (some (r 440)) := by kernel_rfl
theorem gl_table_here (w : World) : nsIn (K w.params) mainGlobals "table_here" = some (some (r 447)) := by kernel_rfl
theorem gl_read_search_all (w : World) : nsIn (K w.params) mainGlobals "read_search_all" = some (some (r 454)) := by kernel_rfl
theorem gl_read_search (w : World) : nsIn (K w.params) mainGlobals "read_search" = some (some (r 461)) := by kernel_rfl
theorem gl_RESERVED (w : World) : nsIn (K w.params) mainGlobals "RESERVED" = some (some (.str resv 881)) := by kernel_rfl
theorem gl_is_reserved (w : World) : nsIn (K w.params) mainGlobals "is_reserved" = some (some (r 468)) := by kernel_rfl
theorem gl_Reader (w : World) : nsIn (K w.params) mainGlobals "Reader" = some (some (r 642)) := by kernel_rfl
theorem gl_Token (w : World) : nsIn (K w.params) mainGlobals "Token" = some (some (r 672)) := by kernel_rfl
theorem gl_law_pen (w : World) : nsIn (K w.params) mainGlobals "_law_pen" = some (some (r 681)) := by kernel_rfl
theorem gl_law_draw (w : World) : nsIn (K w.params) mainGlobals "_law_draw" = some (some (r 688)) := by kernel_rfl
theorem gl_law_pick (w : World) : nsIn (K w.params) mainGlobals "_law_pick" = some (some (r 695)) := by kernel_rfl
theorem gl_law_words (w : World) : nsIn (K w.params) mainGlobals "_law_words" = some (some (r 700)) := by kernel_rfl
theorem gl_law_reader (w : World) : nsIn (K w.params) mainGlobals "_law_reader" = some (some (r 705)) := by kernel_rfl
theorem gl_law_item (w : World) : nsIn (K w.params) mainGlobals "_law_item" = some (some (r 712)) := by kernel_rfl
theorem gl_law_leaf (w : World) : nsIn (K w.params) mainGlobals "_law_leaf" = some (some (r 719)) := by kernel_rfl
theorem gl_law_cond (w : World) : nsIn (K w.params) mainGlobals "_law_cond" = some (some (r 726)) := by kernel_rfl
theorem gl_law_bracket (w : World) : nsIn (K w.params) mainGlobals "_law_bracket" = some (some (r 733)) := by kernel_rfl
theorem gl_law_right (w : World) : nsIn (K w.params) mainGlobals "_law_right" = some (some (r 740)) := by kernel_rfl
theorem gl_law_both (w : World) : nsIn (K w.params) mainGlobals "_law_both" = some (some (r 747)) := by kernel_rfl
theorem gl_law (w : World) : nsIn (K w.params) mainGlobals "law" = some (some (r 752)) := by kernel_rfl
theorem mf_ConditionReader_either (w : World) : findIn (K w.params) (.ref 372) "either" = some (some (.ref 299)) := by kernel_rfl
theorem mf_ConditionReader_both (w : World) : findIn (K w.params) (.ref 372) "both" = some (some (.ref 306)) := by kernel_rfl
theorem mf_ConditionReader_turned (w : World) : findIn (K w.params) (.ref 372) "turned" = some (some (.ref 313)) := by kernel_rfl
theorem mf_ConditionReader_single (w : World) : findIn (K w.params) (.ref 372) "single" = some (some (.ref 320)) := by kernel_rfl
theorem mf_ConditionReader_unbracketed (w : World) : findIn (K w.params) (.ref 372) "unbracketed" = some (some (.ref 327)) := by kernel_rfl
theorem mf_ConditionReader_in_brackets (w : World) : findIn (K w.params) (.ref 372) "in_brackets" = some (some (.ref 334)) := by kernel_rfl
theorem mf_ConditionReader_predicate (w : World) : findIn (K w.params) (.ref 372) "predicate" = some (some (.ref 355)) := by kernel_rfl
theorem mf_ConditionReader_relation (w : World) : findIn (K w.params) (.ref 372) "relation" = some (some (.ref 362)) := by kernel_rfl
theorem mf_ConditionReader_sign_here (w : World) : findIn (K w.params) (.ref 372) "sign_here" = some (some (.ref 369)) := by kernel_rfl
theorem mf_Reader___init__ (w : World) : findIn (K w.params) (.ref 642) "__init__" = some (some (.ref 488)) := by kernel_rfl
theorem mf_Reader_peek (w : World) : findIn (K w.params) (.ref 642) "peek" = some (some (.ref 496)) := by kernel_rfl
theorem mf_Reader_is_done (w : World) : findIn (K w.params) (.ref 642) "is_done" = some (some (.ref 503)) := by kernel_rfl
theorem mf_Reader_fault (w : World) : findIn (K w.params) (.ref 642) "fault" = some (some (.ref 510)) := by kernel_rfl
theorem mf_Reader_take (w : World) : findIn (K w.params) (.ref 642) "take" = some (some (.ref 517)) := by kernel_rfl
theorem mf_Reader_is_kind (w : World) : findIn (K w.params) (.ref 642) "is_kind" = some (some (.ref 525)) := by kernel_rfl
theorem mf_Reader_is_word (w : World) : findIn (K w.params) (.ref 642) "is_word" = some (some (.ref 532)) := by kernel_rfl
theorem mf_Reader_skip (w : World) : findIn (K w.params) (.ref 642) "skip" = some (some (.ref 539)) := by kernel_rfl
theorem mf_Reader_need (w : World) : findIn (K w.params) (.ref 642) "need" = some (some (.ref 546)) := by kernel_rfl
theorem mf_Reader_one_of (w : World) : findIn (K w.params) (.ref 642) "one_of" = some (some (.ref 553)) := by kernel_rfl
theorem mf_Reader_word (w : World) : findIn (K w.params) (.ref 642) "word" = some (some (.ref 560)) := by kernel_rfl
theorem mf_Reader_is_name (w : World) : findIn (K w.params) (.ref 642) "is_name" = some (some (.ref 568)) := by kernel_rfl
theorem mf_Reader_name (w : World) : findIn (K w.params) (.ref 642) "name" = some (some (.ref 575)) := by kernel_rfl
theorem mf_Reader_names (w : World) : findIn (K w.params) (.ref 642) "names" = some (some (.ref 582)) := by kernel_rfl
theorem mf_Reader_is_sign (w : World) : findIn (K w.params) (.ref 642) "is_sign" = some (some (.ref 590)) := by kernel_rfl
theorem mf_Reader_skip_sign (w : World) : findIn (K w.params) (.ref 642) "skip_sign" = some (some (.ref 597)) := by kernel_rfl
theorem mf_Reader_need_sign (w : World) : findIn (K w.params) (.ref 642) "need_sign" = some (some (.ref 604)) := by kernel_rfl
theorem mf_Reader_is_number (w : World) : findIn (K w.params) (.ref 642) "is_number" = some (some (.ref 611)) := by kernel_rfl
theorem mf_Reader_signed (w : World) : findIn (K w.params) (.ref 642) "signed" = some (some (.ref 618)) := by kernel_rfl
theorem mf_Reader_whole (w : World) : findIn (K w.params) (.ref 642) "whole" = some (some (.ref 625)) := by kernel_rfl
theorem mf_Reader_literal (w : World) : findIn (K w.params) (.ref 642) "literal" = some (some (.ref 632)) := by kernel_rfl
theorem mf_Reader_octets (w : World) : findIn (K w.params) (.ref 642) "octets" = some (some (.ref 639)) := by kernel_rfl

local macro_rules | `(tactic| walk_at $s:str) => do let t := Lean.Syntax.mkStrLit ("m:" ++ s.getString); `(tactic| k_extra $t)
namespace G1
theorem on1 : True := trivial
end G1
namespace G2
theorem on2 : True := trivial
end G2
namespace G3
theorem on3 : True := trivial
end G3
namespace G4
theorem on4 : True := trivial
end G4
namespace G5
theorem on5 : True := trivial
end G5
theorem bc {G : Prop} (h : ¬ G → False) : G := Classical.byContradiction h
abbrev PP : Program := PySem.Challenge.rw_pb0281_01.row.prog
abbrev MM (w : World) : Model := model PP w
structure Gd (w : World) (h : Heap) : Prop where
  K : (K w.params).In h
  T : ∃ p loose mean mg mb, Top p loose mean mg mb h
theorem Gd.keeps {w : World} {h h' : Heap} (G : Gd w h) (k : ∀ b o, h.get? b = some o → h'.get? b = some o) : Gd w h' :=
  ⟨G.K.keeps k, let ⟨p, l, e, mg, mb, T⟩ := G.T; ⟨p, l, e, mg, mb, T.keeps k⟩⟩
theorem Gd.lim {w : World} {h : Heap} (G : Gd w h) : h.NoLimit := by
  obtain ⟨_, _, _, _, _, T⟩ := G.T
  exact T.nolimit
def Keep (W : List Addr) (h h' : Heap) : Prop := ∀ b o, h.get? b = some o → b ∉ W → h'.get? b = some o
section
variable {w : World} {A : Around} {E : Value → Shared → Prop} {s : Shared}
theorem enter {R : Result → Shared → Prop} (W : List Addr) {f : Addr} {name qual : Str} {params : Arguments} {body : List Stmt} {scope : Scope} {cl : List (Str × Addr)} {dV kV doc pm cdv ct oc : Value} {an od : Option Addr}
    {osl : Array (Option Value)} {args : Args} {binds : List (Str × Value)}
    (lim : s.heap.NoLimit) (ho : s.heap.get? f = some ⟨oc, od, .func (fnX name qual params body scope cl dV kV doc pm an cdv ct), osl⟩) (hcd : s.heap.CodeRec cdv qual) (hroom : A.depth < recursionLimit)
    (hbind : BindsTo s (fnX name qual params body scope cl dV kV doc pm an cdv ct) args binds) (hloc : ∀ y ∈ binds, scope.names.lookup y.1 = some .local)
    (h : ∀ L h₁, Fr (hideAll s.heap W) L h₁ (fun y => binds.reverse.lookup y) → (∀ b o, s.heap.get? b = some o → h₁.get? b = some o ∧ b ≠ L) →
      wpAny (MM w) (A.deeper (envX qual scope L f cdv cl)) (execs body (envX qual scope L f cdv cl)) (fun fl s' => R (.ok (.ret (match fl with | .ret v => v | _ => .none))) s')
        (fun e s' => wpAny (MM w) (A.deeper (envX qual scope L f cdv cl)) (leaving (envX qual scope L f cdv cl) e) (fun _ s'' => R (.error e) s'') (fun e' s'' => R (.error e') s'') s')
        { s with heap := h₁, toks := s.toks + binds.length })
    (hcell : ∀ x ∈ scope.names, x.2 ≠ .cell) (hco : scope.isCoroutine = false := by rfl) (hgen : scope.isGenerator = false := by rfl) (hk : scope.kind = .function := by rfl) : codeAny (MM w) A (.call (.ref f) args) R s :=
  codeAny_call_def (fd := fnX name qual params body scope cl dV kV doc pm an cdv ct) (body := body) (binds := binds) hroom ho rfl lim hcd rfl hbind hcell hloc (fun h₁ hns hk₁ =>
    h s.heap.objs.size h₁ ⟨hns, fun b o e => hk₁ b o (of_hideAll _ e), Nat.le_of_eq (hideAll_size _ _)⟩ fun b o e => ⟨hk₁ b o e, Nat.ne_of_lt (Heap.lt_size e)⟩) hco hgen hk
theorem keep_of {W : List Addr} {L : Addr} {h h' : Heap} {m : Str → Option Value} (F : Fr (hideAll h W) L h' m) : Keep W h h' := fun b o e n => F.keep b o (hideAll_get W e n)
theorem nm_l {env : Env} {h₀ : Heap} {m : Str → Option Value} {x : Str} {pos : Pos} {v : Value} {Q : Value → Shared → Prop} (F : Fr h₀ env.locals s.heap m) (hv : m x = some v) (h : Q v s)
    (hk : env.scope.kind = .function) (hl : env.kindOf x = some .local) (hd : (x == ("__debug__" : Str)) = false) :
    wpAny (MM w) A (eval (.Name x pos) env) Q E s := wpAny_Name (wpAny_loadName_local hk hl F.ns hv h) hd
theorem nm_g {env : Env} {x : Str} {pos : Pos} {v : Value} {Q : Value → Shared → Prop} (G : Gd w s.heap) (e : nsIn (K w.params) mainGlobals x = some (some v)) (h : Q v s)
    (hg : env.globals = mainGlobals) (hk : env.scope.kind = .function) (hx : env.kindOf x = some .globalImplicit) (hd : (x == ("__debug__" : Str)) = false) :
    wpAny (MM w) A (eval (.Name x pos) env) Q E s :=
  let ⟨_, _, _, _, _, T⟩ := G.T
  Name_function_global hk hx (loadGlobal_global (env := env) (by rw [hg]; exact T.g) (mg_of G.K T.g e) h) hd
theorem nm_b {env : Env} {x : Str} {pos : Pos} {v : Value} {Q : Value → Shared → Prop} (G : Gd w s.heap) (e : nsIn (K w.params) mainGlobals x = some none) (hv : bootBuiltins x = some v) (h : Q v s)
    (hg : env.globals = mainGlobals) (hb : env.builtins = builtinsNs) (hk : env.scope.kind = .function) (hx : env.kindOf x = some .globalImplicit) (hd : (x == ("__debug__" : Str)) = false) (hn : x ≠ "__name__") :
    wpAny (MM w) A (eval (.Name x pos) env) Q E s :=
  let ⟨_, _, _, _, _, T⟩ := G.T
  Name_function_global hk hx (loadGlobal_builtin (env := env) (by rw [hg]; exact T.g) (ns_none_of G.K T.g e) (by rw [hb]; exact T.b) ((T.builtins x hn).trans hv) h) hd
end
def fdOf (o : Obj) : FuncData := match o.data with
  | .func f => f
  | _ => default
theorem noE {α : Type} {M : Model} {A : Around} {E : Value → Shared → Prop} {s : Shared} {t : Sem α} {Q : α → Shared → Prop} (h : wpAny M A t Q (fun _ _ => False) s) : wpAny M A t Q E s := wpAny_mono h (fun _ _ x => x) fun _ _ x => x.elim
abbrev tupO (xs : List Value) : Obj := { cls := .type "tuple", data := .seq xs.toArray }
def Stab (o : Obj) : Prop := match o.data with
  | .seq _ _ => o.cls = .type "tuple"
  | .plain => True
  | .func _ => True
  | .cell _ => True
  | .fields vs => ∃ x t, vs[1]? = some (.str x t)
  | _ => False
structure Keep2 (W : List Addr) (h h' : Heap) : Prop where
  keep : ∀ b o, h.get? b = some o → b ∉ W → h'.get? b = some o
  live : ∀ b o, h.get? b = some o → ∃ o', h'.get? b = some o'
  stab : ∀ b o, Stab o → h.get? b = some o → h'.get? b = some o
theorem Keep2.refl {W : List Addr} {h : Heap} : Keep2 W h h := ⟨fun _ _ e _ => e, fun _ o e => ⟨o, e⟩, fun _ _ _ e => e⟩
theorem Keep2.trans {W : List Addr} {h h' h'' : Heap} (a : Keep2 W h h') (b : Keep2 W h' h'') : Keep2 W h h'' :=
  ⟨fun x o e n => b.keep x o (a.keep x o e n) n, fun x o e => let ⟨o', e'⟩ := a.live x o e; b.live x o' e', fun x o n e => b.stab x o n (a.stab x o n e)⟩
theorem Keep2.more {W W' : List Addr} {h h' : Heap} (a : Keep2 W h h') (s : ∀ x ∈ W, x ∈ W') : Keep2 W' h h' := ⟨fun b o e n => a.keep b o e fun q => n (s b q), a.live, a.stab⟩
theorem Keep2.push {W : List Addr} {h : Heap} (o : Obj) : Keep2 W h (h.push o) := ⟨fun b o' e _ => Heap.get?_push_of_some _ e, fun b o' e => ⟨o', Heap.get?_push_of_some _ e⟩, fun b o' _ e => Heap.get?_push_of_some _ e⟩
theorem Keep2.all {W : List Addr} {h h' : Heap} (k : ∀ b o, h.get? b = some o → h'.get? b = some o) : Keep2 W h h' := ⟨fun b o e _ => k b o e, fun b o e => ⟨o, k b o e⟩, fun b _ _ e => k b _ e⟩
structure St (g : Heap) (W : List Addr) (h : Heap) : Prop where
  sub : ∀ b o, g.get? b = some o → h.get? b = some o
  off : ∀ a ∈ W, g.get? a = none
  live : ∀ a ∈ W, ∃ o, h.get? a = some o
theorem St.go {g : Heap} {W W' : List Addr} {h h' : Heap} (S : St g W h) (k : Keep2 W' h h') (n : ∀ a ∈ W', g.get? a = none) : St g W h' :=
  ⟨fun b o e => k.keep b o (S.sub b o e) fun m => (by rw [n b m] at e; cases e), S.off, fun a m => let ⟨o, e⟩ := S.live a m; k.live a o e⟩
theorem St.less {g : Heap} {W W' : List Addr} {h : Heap} (S : St g W h) (s : ∀ x ∈ W', x ∈ W) : St g W' h := ⟨S.sub, fun a q => S.off a (s a q), fun a q => S.live a (s a q)⟩
theorem St.none {g h : Heap} {W : List Addr} (S : St g W h) : St g [] h := S.less fun _ q => (nomatch q)
def lk (l : List (PySem.Str × Value)) (y : PySem.Str) : Option Value := l.lookup y
structure Cx (g : Heap) (W : List Addr) (h0 : Heap) (L : Addr) (m : PySem.Str → Option Value) (h : Heap) : Prop where
  ns : h.Ns L m
  st : St g W h
  nL : L ∉ W
  gL : g.get? L = none
  k : Keep2 (L :: W) h0 h
section
variable {g : Heap} {W : List Addr} {h0 h h' : Heap} {L : Addr} {m : PySem.Str → Option Value}
theorem Cx.go {W' : List Addr} (C : Cx g W h0 L m h) (k : Keep2 W' h h') (s : ∀ x ∈ W', x ∈ W := by simp) : Cx g W h0 L m h' := by
  refine ⟨?_, C.st.go k fun a q => C.st.off a (s a q), C.nL, C.gL, C.k.trans (k.more fun x q => .tail _ (s x q))⟩
  obtain ⟨oL, es, ep, hL, r⟩ := C.ns
  exact ⟨oL, es, ep, k.keep L oL hL fun q => C.nL (s L q), r⟩
theorem Cx.root (C : Cx g W h0 L m h) : Cx g W h L m h := ⟨C.ns, C.st, C.nL, C.gL, .refl⟩
theorem Cx.back {h1 : Heap} (C : Cx g W h1 L m h') (k : Keep2 (L :: W) h0 h1) : Cx g W h0 L m h' := ⟨C.ns, C.st, C.nL, C.gL, k.trans C.k⟩
theorem Cx.keep (C : Cx g W h0 L m h) (n : h0.get? L = none) : Keep2 W h0 h :=
  ⟨fun b o e q => C.k.keep b o e fun z => (List.mem_cons.mp z).elim (fun y => by rw [y, n] at e; cases e) q, C.k.live, C.k.stab⟩
theorem ne_of_live {D : Addr} (e : ∃ o, h0.get? D = some o) (n : h0.get? L = none) : D ≠ L := fun z => by obtain ⟨o, e⟩ := e; rw [z, n] at e; cases e
theorem keep2_same (hs : Heap.SameBut L h h') (hL : ∃ o, h'.get? L = some o) (nT : ∀ o, h.get? L = some o → ¬ Stab o) : Keep2 [L] h h' :=
  ⟨fun b o e n => (hs.2 b fun q => n (q ▸ .head _)).trans e, fun b o e => by
    by_cases q : b = L
    · subst q; exact hL
    · exact ⟨o, (hs.2 b q).trans e⟩, fun b o n e => by
    by_cases q : b = L
    · subst q; exact absurd n (nT o e)
    · exact (hs.2 b q).trans e⟩
theorem Ns_not_stab (hn : h.Ns L m) (o : Obj) (q : h.get? L = some o) : ¬ Stab o := fun n => by
  obtain ⟨o, es, ep, e, d, _⟩ := hn
  rw [q] at e
  cases e
  unfold Stab at n
  rw [d] at n
  exact n
theorem Cx.own {m' : PySem.Str → Option Value} (C : Cx g W h0 L m h) (hn : h'.Ns L m') (k : Keep2 [L] h h') : Cx g W h0 L m' h' :=
  ⟨hn, C.st.go k fun a q => by rw [List.mem_singleton.mp q]; exact C.gL, C.nL, C.gL, C.k.trans (k.more fun x q => by rw [List.mem_singleton.mp q]; exact .head _)⟩
end
section
variable {w : World} {A : Around} {E : Value → Shared → Prop} {s : Shared} {g : Heap} {W : List Addr} {h0 h h' : Heap} {L : Addr} {m : PySem.Str → Option Value}
theorem enter2 {R : Result → Shared → Prop} {f : Addr} {name qual : PySem.Str} {params : Arguments} {body : List Stmt} {scope : Scope} {cl : List (PySem.Str × Addr)} {dV kV doc pm cdv ct oc : Value} {an od : Option Addr}
    {osl : Array (Option Value)} {args : Args} (binds : List (PySem.Str × Value))
    (G : Gd w g) (S : St g W s.heap) (ho : s.heap.get? f = some ⟨oc, od, .func (fnX name qual params body scope cl dV kV doc pm an cdv ct), osl⟩) (hcd : codeIn (K w.params) cdv qual = true) (hroom : A.depth < recursionLimit)
    (hbind : BindsTo s (fnX name qual params body scope cl dV kV doc pm an cdv ct) args binds) (hloc : ∀ y ∈ binds, scope.names.lookup y.1 = some .local)
    (h : ∀ L h₁ tk, Cx g W s.heap L (lk binds.reverse) h₁ → s.heap.get? L = none → (∀ b o, s.heap.get? b = some o → h₁.get? b = some o) →
      wpAny (MM w) (A.deeper (envX qual scope L f cdv cl)) (execs body (envX qual scope L f cdv cl)) (fun fl s' => R (.ok (.ret (match fl with | .ret v => v | _ => .none))) s')
        (fun e s' => wpAny (MM w) (A.deeper (envX qual scope L f cdv cl)) (leaving (envX qual scope L f cdv cl) e) (fun _ s'' => R (.error e) s'') (fun e' s'' => R (.error e') s'') s')
        { s with heap := h₁, toks := tk })
    (hcell : ∀ x ∈ scope.names, x.2 ≠ .cell) (hco : scope.isCoroutine = false := by rfl) (hgen : scope.isGenerator = false := by rfl) (hk : scope.kind = .function := by rfl) : codeAny (MM w) A (.call (.ref f) args) R s :=
  have G' := G.keeps S.sub
  enter W G'.lim ho (codeRec_of G'.K hcd) hroom hbind hloc (fun L h₁ F k =>
    have nL : s.heap.get? L = none := by
      cases q : s.heap.get? L with
      | none => rfl
      | some o => exact absurd rfl (k L o q).2
    h L h₁ _ ⟨F.ns, ⟨fun b o e => (k b o (S.sub b o e)).1, S.off, fun a q => let ⟨o, e⟩ := S.live a q; ⟨o, (k a o e).1⟩⟩, fun q => let ⟨o, e⟩ := S.live L q; (k L o e).2 rfl,
      by cases q : g.get? L with
         | none => rfl
         | some o => exact absurd rfl (k L o (S.sub L o q)).2,
      ⟨fun b o e _ => (k b o e).1, fun b o e => ⟨o, (k b o e).1⟩, fun b o _ e => (k b _ e).1⟩⟩ nL fun b o e => (k b o e).1) hcell hco hgen hk
theorem n_l {env : Env} {x : PySem.Str} {pos : Pos} {v : Value} {Q : Value → Shared → Prop} (C : Cx g W h0 env.locals m s.heap) (hv : m x = some v) (h : Q v s)
    (hk : env.scope.kind = .function) (hl : env.kindOf x = some .local) (hd : (x == ("__debug__" : PySem.Str)) = false) :
    wpAny (MM w) A (eval (.Name x pos) env) Q E s := wpAny_Name (wpAny_loadName_local hk hl C.ns hv h) hd
theorem n_g {env : Env} {x : PySem.Str} {pos : Pos} {v : Value} {Q : Value → Shared → Prop} (G : Gd w g) (C : Cx g W h0 L m s.heap) (e : nsIn (K w.params) mainGlobals x = some (some v)) (h : Q v s)
    (hg : env.globals = mainGlobals) (hk : env.scope.kind = .function) (hx : env.kindOf x = some .globalImplicit) (hd : (x == ("__debug__" : PySem.Str)) = false) :
    wpAny (MM w) A (eval (.Name x pos) env) Q E s := nm_g (G.keeps C.st.sub) e h hg hk hx hd
theorem n_b {env : Env} {x : PySem.Str} {pos : Pos} {v : Value} {Q : Value → Shared → Prop} (G : Gd w g) (C : Cx g W h0 L m s.heap) (hv : bootBuiltins x = some v) (h : Q v s) (e : nsIn (K w.params) mainGlobals x = some none)
    (hg : env.globals = mainGlobals) (hb : env.builtins = builtinsNs) (hk : env.scope.kind = .function) (hx : env.kindOf x = some .globalImplicit) (hd : (x == ("__debug__" : PySem.Str)) = false) (hn : x ≠ "__name__") :
    wpAny (MM w) A (eval (.Name x pos) env) Q E s := nm_b (G.keeps C.st.sub) e hv h hg hb hk hx hd hn
theorem store {env : Env} {x : PySem.Str} {v : Value} {Q : Unit → Shared → Prop} (C : Cx g W h0 env.locals m s.heap)
    (h : ∀ h', Cx g W h0 env.locals (fun y => if y = x then some v else m y) h' → Keep2 [env.locals] s.heap h' → Q () { s with heap := h', toks := s.toks + 1 })
    (hk : env.scope.kind = .function) (hl : env.kindOf x = some .local) : wpAny (MM w) A (storeName env x v) Q E s := by
  refine wpAny_storeName_local hl C.ns (fun h' hn hs => ?_) (by rw [hk]; rfl)
  have hL : ∃ o, h'.get? env.locals = some o := by obtain ⟨oL, _, _, e, _⟩ := hn; exact ⟨oL, e⟩
  have k := keep2_same hs hL (Ns_not_stab C.ns)
  exact h h' (C.own hn k) k
theorem storeL {env : Env} {x : PySem.Str} {v : Value} {l : List (PySem.Str × Value)} {Q : Unit → Shared → Prop} (C : Cx g W h0 L (lk l) s.heap)
    (h : ∀ h', Cx g W h0 L (lk ((x, v) :: l)) h' → Keep2 [L] s.heap h' → Q () { s with heap := h', toks := s.toks + 1 })
    (hk : env.scope.kind = .function) (hl : env.kindOf x = some .local) (hL : env.locals = L := by rfl) : wpAny (MM w) A (storeName env x v) Q E s := by
  subst hL
  refine store C (fun h' C' k => h h' ?_ k) hk hl
  have e : (fun y => if y = x then some v else lk l y) = lk ((x, v) :: l) := funext fun y => by
    by_cases q : y = x
    · subst q; simp [lk]
    · simp [lk, q, List.lookup_cons]
      split
      · rename_i c; exact absurd (eq_of_beq c) q
      · rfl
  rw [← e]; exact C'
end
theorem reads_stab {h h' : Heap} (st : ∀ b o, Stab o → h.get? b = some o → h'.get? b = some o) {v : Value} {d : PyData} (r : Reads h v d []) : Reads h' v d [] :=
  Reads.rec (motive_1 := fun v d as _ => as = [] → Reads h' v d as) (motive_2 := fun vs ds as _ => as = [] → ReadsAll h' vs ds as)
    (fun _ => .none) (fun b _ => .bool b) (fun i t _ => .int i t) (fun x t _ => .str x t) (fun _ _ _ _ _ e => absurd e (List.cons_ne_nil _ _))
    (fun h1 h2 h3 _ ih e => .tuple (st _ _ (by unfold Stab; rw [h3]; exact h2) h1) h2 h3 (ih e)) (fun _ _ _ _ _ _ _ e => absurd e (List.cons_ne_nil _ _))
    (fun _ => .nil) (fun _ _ i1 i2 e => .cons (i1 (List.append_eq_nil_iff.mp e).1) (i2 (List.append_eq_nil_iff.mp e).2)) r rfl
abbrev Tx := PySem.Str × PySem.Str
def kh (w : World) (x : String) : Int := PyData.keyHash w.params (PySem.Str.ofString x)
def rdict (w : World) (tl : Addr) (p : Nat) (nd : Value) (t0 t1 t2 t3 : Tok) : List DictEntry :=
  [⟨kh w "tokens", .str "tokens" t0, .ref tl⟩, ⟨kh w "at", .str "at" t1, .int p t2⟩, ⟨kh w "named", .str "named" t3, nd⟩]
def tdict (w : World) (t : Tx) (at_ : Value) (k0 k1 k2 k3 k4 k5 : Tok) : List DictEntry :=
  [⟨kh w "kind", .str "kind" k0, .str t.1 k1⟩, ⟨kh w "worth", .str "worth" k2, .str t.2 k3⟩, ⟨kh w "at", .str "at" k4, at_⟩, ⟨kh w "is_in_a", .str "is_in_a" k5, .bool false⟩]
def TokAt (w : World) (g : Heap) (v : Value) (i : Nat) (t : Tx) : Prop :=
  ∃ a da ata k0 k1 k2 k3 k4 k5 k6 k7 n, v = .ref a ∧ g.get? a = some (instObj 672 da) ∧ g.get? da = some (dictOf (tdict w t (.ref ata) k0 k1 k2 k3 k4 k5) n) ∧
    g.get? ata = some { cls := .type "tuple", data := .seq #[.int ((i : Int) + 1) k6, .int 12 k7] }
structure RS (w : World) (g : Heap) (r D tl : Addr) (nd : Value) (toks : List Value) (ts : List Tx) : Prop where
  inst : g.get? r = some (instObj 642 D)
  list : ∃ n, g.get? tl = some (listOf toks.toArray n)
  tok : ∀ i t, ts[i]? = some t → ∃ v, toks[i]? = some v ∧ TokAt w g v i t
  len : toks.length = ts.length
  few : ts.length < 2 ^ 20
def RD (w : World) (h : Heap) (D tl : Addr) (p : Nat) (nd : Value) : Prop := ∃ t0 t1 t2 t3 n, h.get? D = some (dictOf (rdict w tl p nd t0 t1 t2 t3) n)
theorem RD.go {w : World} {h h' : Heap} {D tl : Addr} {p : Nat} {nd : Value} {W : List Addr} (H : RD w h D tl p nd) (k : Keep2 W h h') (n : D ∉ W := by simp) : RD w h' D tl p nd := by
  obtain ⟨a, b, c, d, e, x⟩ := H
  exact ⟨a, b, c, d, e, k.keep _ _ x n⟩
theorem RD.live {w : World} {h : Heap} {D tl : Addr} {p : Nat} {nd : Value} (H : RD w h D tl p nd) : ∃ o, h.get? D = some o := by
  obtain ⟨a, b, c, d, e, x⟩ := H
  exact ⟨_, x⟩
theorem fn_at {w : World} {g h : Heap} {W : List Addr} {f : Addr} {o : Obj} (G : Gd w g) (S : St g W h) (e : (K w.params).lookup f = some o) : h.get? f = some o := S.sub _ _ (G.K _ _ e)
variable {w : World} {A : Around} {E : Value → Shared → Prop} {s : Shared} {g : Heap} {W : List Addr} {r D tl : Addr} {p : Nat} {nd : Value} {toks : List Value} {ts : List Tx}
theorem rd_attr {name : PySem.Str} {v : Value} {Q : Value → Shared → Prop} {es : List DictEntry} {n : Nat} {C r D : Addr} (G : Gd w s.heap) (hi : s.heap.get? r = some (instObj C D)) (e : s.heap.get? D = some (dictOf es n))
    (hg : plainGet (K w.params) C name = true) (hh : hasDictIn (K w.params) C = true) (ha : findIn (K w.params) (.ref C) name = some none) (hl : getL name es = some (some v)) (hv : handedIn v = true) (h : Q v { s with toks := s.toks + 1 }) :
    wpAny (MM w) A (getAttr (.ref r) name true) Q E s :=
  get_value G.K ⟨hi, rfl, rfl, e⟩ (plainGet_of hg).1 (findObj_own (attr := none) hh ha (by rfl) (show lookIn name (dictOf es n) = _ from hl)) hv h
theorem g_at {Q : Value → Shared → Prop} (G : Gd w g) (S : St g W s.heap) (R : RS w g r D tl nd toks ts) (H : RD w s.heap D tl p nd) (h : ∀ t, Q (.int p t) { s with toks := s.toks + 1 }) : wpAny (MM w) A (getAttr (.ref r) "at" true) Q E s := by
  refine bc fun hGo => ?_
  obtain ⟨t0, t1, t2, t3, n, e⟩ := H
  refine hGo ?_; clear hGo
  exact rd_attr (G.keeps S.sub) (S.sub _ _ R.inst) e (by kernel_rfl) (by kernel_rfl) (by kernel_rfl) rfl rfl (h t2)
theorem g_tokens {Q : Value → Shared → Prop} (G : Gd w g) (S : St g W s.heap) (R : RS w g r D tl nd toks ts) (H : RD w s.heap D tl p nd) (h : Q (.ref tl) { s with toks := s.toks + 1 }) : wpAny (MM w) A (getAttr (.ref r) "tokens" true) Q E s := by
  refine bc fun hGo => ?_
  obtain ⟨t0, t1, t2, t3, n, e⟩ := H
  refine hGo ?_; clear hGo
  exact rd_attr (G.keeps S.sub) (S.sub _ _ R.inst) e (by kernel_rfl) (by kernel_rfl) (by kernel_rfl) rfl rfl h
theorem g_kind {Q : Value → Shared → Prop} {a : Addr} {i : Nat} {t : Tx} (G : Gd w g) (S : St g W s.heap) (H : TokAt w g (.ref a) i t) (h : ∀ k, Q (.str t.1 k) { s with toks := s.toks + 1 }) : wpAny (MM w) A (getAttr (.ref a) "kind" true) Q E s := by
  refine bc fun hGo => ?_
  obtain ⟨_, da, ata, k0, k1, k2, k3, k4, k5, k6, k7, n, hv, e1, e2, e3⟩ := H
  refine hGo ?_; clear hGo
  cases hv
  exact rd_attr (G.keeps S.sub) (S.sub _ _ e1) (S.sub _ _ e2) (by kernel_rfl) (by kernel_rfl) (by kernel_rfl) rfl rfl (h k1)
theorem g_worth {Q : Value → Shared → Prop} {a : Addr} {i : Nat} {t : Tx} (G : Gd w g) (S : St g W s.heap) (H : TokAt w g (.ref a) i t) (h : ∀ k, Q (.str t.2 k) { s with toks := s.toks + 1 }) : wpAny (MM w) A (getAttr (.ref a) "worth" true) Q E s := by
  refine bc fun hGo => ?_
  obtain ⟨_, da, ata, k0, k1, k2, k3, k4, k5, k6, k7, n, hv, e1, e2, e3⟩ := H
  refine hGo ?_; clear hGo
  cases hv
  exact rd_attr (G.keeps S.sub) (S.sub _ _ e1) (S.sub _ _ e2) (by kernel_rfl) (by kernel_rfl) (by kernel_rfl) rfl rfl (h k3)
theorem RS.isList (R : RS w g r D tl nd toks ts) (S : St g W s.heap) : s.heap.IsList tl toks.toArray := by
  obtain ⟨n, e⟩ := R.list
  exact ⟨_, S.sub _ _ e, rfl, n, rfl⟩
theorem l_item {value slice : PySem.Expr} {l : Addr} {vs : List Value} {k : Int} {u : Tok} {v : Value} {Q : Value → Shared → Prop}
    (hl : s.heap.IsList l vs.toArray) (h0 : 0 ≤ k) (hhi : k < 2 ^ 63) (hx : vs[k.toNat]? = some v) (h : Q v s)
    (hs : subscripted slice false (.ref l) (.int k u) = operate [.ref l, .int k u] (getItem (.ref l) (.int k u)) := by with_unfolding_all rfl) :
    wpAny (MM w) A (subscriptTail value slice (.ref l) (.int k u)) Q E s :=
  tail_any hl.typeIs slot_list_getitem.lookup (wpAny_getItem_list hl h0 hhi (by simpa using hx) h) hs
variable {pc : Addr} {w : World} {A : Around} {E : Value → Shared → Prop} {s : Shared} {g : Heap} {W : List Addr} {r D tl : Addr} {p : Nat} {nd : Value} {toks : List Value} {ts : List Tx}
section
def allBut (h : Heap) (D L : Addr) : List (Addr × Obj) := (List.range h.objs.size).filterMap fun a => if a = D ∨ a = L then none else (h.get? a).map fun o => (a, o)
theorem mem_allBut {h : Heap} {D L a : Addr} {o : Obj} : (a, o) ∈ allBut h D L ↔ h.get? a = some o ∧ a ≠ D ∧ a ≠ L := by
  unfold allBut
  rw [List.mem_filterMap]
  constructor
  · rintro ⟨b, hb, e⟩
    by_cases c : b = D ∨ b = L
    · rw [if_pos c] at e; cases e
    · rw [if_neg c] at e
      cases q : h.get? b with
      | none => rw [q] at e; cases e
      | some o' =>
        rw [q] at e
        simp only [Option.map_some, Option.some.injEq, Prod.mk.injEq] at e
        obtain ⟨rfl, rfl⟩ := e
        exact ⟨q, fun z => c (.inl z), fun z => c (.inr z)⟩
  · rintro ⟨e, n1, n2⟩
    refine ⟨a, List.mem_range.mpr (Heap.lt_size e), ?_⟩
    rw [if_neg (fun z => z.elim n1 n2), e]; rfl
variable {w : World} {A : Around} {E : Value → Shared → Prop} {s : Shared} {g : Heap} {W : List Addr} {h0 : Heap} {L : Addr} {m : PySem.Str → Option Value}
theorem set_attr {Q : Unit → Shared → Prop} {x C D : Addr} {name : PySem.Str} {v : Value} {es es' : List DictEntry} {n n' : Nat} (G : Gd w g) (c : Cx g W h0 L m s.heap) (hi : s.heap.get? x = some (instObj C D)) (e : s.heap.get? D = some (dictOf es n)) (hD : D ∈ W)
    (hs : findIn (K w.params) (.ref C) "__setattr__" = some (some (.builtin "object.__setattr__"))) (hp : plainOver (K w.params) C = true) (ht : takerIn (K w.params) C name = some none) (hh : hasDictIn (K w.params) C = true) (hl : (getL name es).isSome = true)
    (hput : (putL name (PyData.keyHash w.params name) (.str name (s.toks + 1)) v es, putN name es n) = (es', n')) (hz : es'.length ≤ 1000)
    (h : ∀ h', Cx g W h0 L m h' → Keep2 [D, L] s.heap h' → h'.get? D = some (dictOf es' n') → Q () { s with heap := h', toks := s.toks + 2 }) :
    wpAny (MM w) A (setAttr (.ref x) name v) Q E s := by
  have X := (G.keeps c.st.sub).K
  have I : InstAt s.heap x (instObj C D) C (some (dictOf es n)) := ⟨hi, rfl, rfl, e⟩
  refine bc fun hGo => ?_
  obtain ⟨e1, e2⟩ := Prod.mk.inj hput
  refine hGo ?_; clear hGo
  have nL : D ≠ L := fun q => c.nL (q ▸ hD)
  have F0 : Fr ({} : Heap) L s.heap m := ⟨c.ns, fun b o q => by simp [Heap.get?] at q, Nat.zero_le _⟩
  have N0 : News ({} : Heap) L s.heap ([] ++ (D, dictOf es n) :: allBut s.heap D L) := fun p hp => by
    rcases List.mem_cons.mp (by simpa using hp) with rfl | hp
    · exact ⟨e, nL, by simp [Heap.get?]⟩
    · have := mem_allBut.mp hp
      exact ⟨this.1, this.2.2, by simp [Heap.get?]⟩
  refine set_plain X I hs (osa_dict (s := { s with toks := s.toks + 1 }) F0 N0 X I rfl hp ht hh hl (fun _ q => nomatch q) (fun p hp => (mem_allBut.mp hp).2.1) (by rw [putName_dict, e1, e2]) rfl hz fun h' F' N' => ?_)
  have kb : ∀ b o, s.heap.get? b = some o → b ≠ D → b ≠ L → h'.get? b = some o := fun b o q n1 n2 => (N' (b, o) (by simp; exact .inr (mem_allBut.mpr ⟨q, n1, n2⟩))).1
  have kD : h'.get? D = some (dictOf es' n') := (N' (D, dictOf es' n') (by simp)).1
  have kL : ∃ o, h'.get? L = some o := by obtain ⟨o, _, _, q, _⟩ := F'.ns; exact ⟨o, q⟩
  have lv : ∀ b o, s.heap.get? b = some o → ∃ o', h'.get? b = some o' := fun b o q => by
    by_cases z : b = D
    · subst z; exact ⟨_, kD⟩
    · by_cases z' : b = L
      · subst z'; exact kL
      · exact ⟨o, kb b o q z z'⟩
  have k2 : Keep2 [D, L] s.heap h' := ⟨fun b o q z => kb b o q (fun y => z (y ▸ .head _)) (fun y => z (y ▸ .tail _ (.head _))), lv, fun b o n q => kb b _ q (fun y => by rw [y, e] at q; cases q; exact n) (fun y => Ns_not_stab c.ns o (y ▸ q) n)⟩
  exact h h' ⟨F'.ns, c.st.go k2 (fun a q => by
      rcases List.mem_cons.mp q with rfl | q
      · exact c.st.off _ hD
      · rw [List.mem_singleton.mp q]; exact c.gL), c.nL, c.gL, c.k.trans (k2.more fun x q => by
      rcases List.mem_cons.mp q with rfl | q
      · exact .tail _ hD
      · rw [List.mem_singleton.mp q]; exact .head _)⟩ k2 kD
end
section
variable {w : World} {A : Around} {E : Value → Shared → Prop} {s : Shared} {g : Heap} {W : List Addr} {r D tl : Addr} {p : Nat} {nd : Value} {toks : List Value} {ts : List Tx} {h0 : Heap} {L : Addr} {m : PySem.Str → Option Value}
theorem RD.st {h h' : Heap} {p0 : Nat} (n : h0.get? L = none) (H0 : RD w h0 D tl p0 nd) (H : RD w h D tl p nd) (k : Keep2 [L] h h') : RD w h' D tl p nd :=
  H.go k (by rw [List.mem_singleton]; exact ne_of_live H0.live n)
theorem RD.sto {h h' : Heap} (n : D ≠ L) (H : RD w h D tl p nd) (k : Keep2 [L] h h') : RD w h' D tl p nd := H.go k (by rw [List.mem_singleton]; exact n)
theorem m_inst {name : PySem.Str} {pl : Sem Bool} {Q : Value × List Value → Shared → Prop} {es : List DictEntry} {n : Nat} {C x D f : Addr} (G : Gd w s.heap) (hi : s.heap.get? x = some (instObj C D)) (e : s.heap.get? D = some (dictOf es n))
    (hg : plainGet (K w.params) C name = true) (hf : findIn (K w.params) (.ref C) name = some (some (.ref f))) (ht : isFn (K w.params) (.ref f) = true) (hl : getL name es = some none) (h : Q (.ref f, [.ref x]) s) :
    wpAny (MM w) A (getMethod (.ref x) name pl) Q E s :=
  method_fn (od := some (dictOf es n)) G.K ⟨hi, rfl, rfl, e⟩ (plainGet_of hg).1 (plainGet_of hg).2 hf (beq_iff_eq.mp ht) (by show (lookIn name (dictOf es n)).map _ = _; rw [lookIn_dict, hl]; rfl) h
theorem m_rd {name : PySem.Str} {pl : Sem Bool} {Q : Value × List Value → Shared → Prop} {f : Addr} (G : Gd w g) (S : St g W s.heap) (R : RS w g r D tl nd toks ts) (H : RD w s.heap D tl p nd)
    (h : Q (.ref f, [.ref r]) s) (hf : findIn (K w.params) (.ref 642) name = some (some (.ref f))) (hg : plainGet (K w.params) 642 name = true) (ht : isFn (K w.params) (.ref f) = true) (hl : ∀ t0 t1 t2 t3, getL name (rdict w tl p nd t0 t1 t2 t3) = some none) :
    wpAny (MM w) A (getMethod (.ref r) name pl) Q E s := by
  refine bc fun hGo => ?_
  obtain ⟨t0, t1, t2, t3, n, e⟩ := H
  refine hGo ?_; clear hGo
  exact m_inst (G.keeps S.sub) (S.sub _ _ R.inst) e hg hf ht (hl _ _ _ _) h
theorem c_fn {env : Env} {pos : Pos} {f : Addr} {first : List Value} {e : PySem.Expr} {rest : List PySem.Expr} {Q : Value → Shared → Prop} (G : Gd w g) (C : Cx g W h0 L m s.heap)
    (h : wpAny (MM w) A (spliced (backTo pos (starEach (e :: rest) env))) (fun vs s₁ => Gd w s₁.heap ∧ wpAny (MM w) A (call (.ref f) (first ++ vs)) Q E s₁) E s)
    (hk : keepIn (K w.params) (.ref f) = true) (he : starEach (e :: rest) env = (false, eval e env) :: starEach rest env := by rfl) (hplain : (backTo pos (starEach rest env)).any (·.1) = false := by rfl) :
    wpAny (MM w) A (callWith pos (.ref f) first (backTo pos (starEach (e :: rest) env)) []) Q E s :=
  callWith_K (G.keeps C.st.sub).K hk (wpAny_mono h (fun _ _ x => ⟨x.1.K, x.2⟩) fun _ _ x => x) he hplain
theorem c_fn0 {env : Env} {pos : Pos} {f : Addr} {first : List Value} {Q : Value → Shared → Prop} (G : Gd w g) (C : Cx g W h0 L m s.heap)
    (h : wpAny (MM w) A (call (.ref f) (first ++ [])) Q E s) (hk : keepIn (K w.params) (.ref f) = true) :
    wpAny (MM w) A (callWith pos (.ref f) first (backTo pos (starEach [] env)) []) Q E s := callWith_K0 (G.keeps C.st.sub).K hk h
end
section
variable {w : World} {A : Around} {E : Value → Shared → Prop} {s : Shared} {g : Heap} {W : List Addr} {h0 h h' : Heap} {L I : Addr} {m : PySem.Str → Option Value}
theorem Cx.fresh (C : Cx g W h0 L m h) (k : Keep2 [I] h h') (n0 : h0.get? I = none) (nL : I ≠ L) (ng : g.get? I = none) : Cx g W h0 L m h' := by
  refine ⟨?_, C.st.go k fun a q => by rw [List.mem_singleton.mp q]; exact ng, C.nL, C.gL, ⟨fun b o e n => k.keep b o (C.k.keep b o e n) fun q => ?_, fun b o e => let ⟨o', e'⟩ := C.k.live b o e; k.live b o' e', fun b o n e => k.stab b o n (C.k.stab b o n e)⟩⟩
  · obtain ⟨oL, es, ep, hL, r⟩ := C.ns
    exact ⟨oL, es, ep, k.keep L oL hL fun q => nL (List.mem_singleton.mp q).symm, r⟩
  · rw [List.mem_singleton.mp q, n0] at e; cases e
structure Wrap (P : Prop) : Prop where
  out : P
def Turns (w : World) (A : Around) (E : Value → Shared → Prop) (g : Heap) (W : List Addr) (env : Env) (x : PySem.Str) (body : List Stmt) (Q : Flow → Shared → Prop) (s : Shared) (h0 : Heap) (I : Addr) : List Value → (PySem.Str → Option Value) → Heap → Prop
  | [], m, h => ∀ h' tk, Cx g W h0 env.locals m h' → (∀ b o, h.get? b = some o → b ≠ I → h'.get? b = some o) → Q .next { s with heap := h', toks := tk }
  | v :: vs, m, h => ∀ h' tk, Cx g W h' env.locals (fun y => if y = x then some v else m y) h' → Keep2 [env.locals, I] h h' → Keep2 (env.locals :: W) h0 h' →
      wpAny (MM w) A (execs body env) (fun f s₃ => match f with
        | .next | .cont => Wrap (∃ h'' tk' m', s₃ = { s with heap := h'', toks := tk' } ∧ Cx g W h' env.locals m' h'' ∧ Turns w A E g W env x body Q s h0 I vs m' h'')
        | .brk => Q .next s₃
        | .ret v => Q (.ret v) s₃) (notedBy (MM w) A env fun e s' => cameBackBy (MM w) A env E e s') { s with heap := h', toks := tk }
theorem Cx.over (C : Cx g W h0 L m h) (k : ∀ b o, h.get? b = some o → b ≠ I → h'.get? b = some o) (n0 : h0.get? I = none) (nL : I ≠ L) (ng : g.get? I = none) (nW : I ∉ W) : Cx g W h0 L m h' := by
  refine ⟨?_, ⟨fun b o e => k b o (C.st.sub b o e) fun q => (by rw [q, ng] at e; cases e), C.st.off, fun a q => let ⟨o, e⟩ := C.st.live a q; ⟨o, k a o e fun z => nW (z ▸ q)⟩⟩, C.nL, C.gL,
    ⟨fun b o e n => k b o (C.k.keep b o e n) fun q => (by rw [q, n0] at e; cases e), fun b o e => let ⟨o', e'⟩ := C.k.live b o e; ⟨o', k b o' e' fun q => (by rw [q, n0] at e; cases e)⟩, fun b o n e => k b _ (C.k.stab b o n e) fun q => (by rw [q, n0] at e; cases e)⟩⟩
  obtain ⟨oL, es, ep, hL, r⟩ := C.ns
  exact ⟨oL, es, ep, k L oL hL fun q => nL q.symm, r⟩
theorem none_of_size {h : Heap} : h.get? h.objs.size = none := by
  cases q : h.get? h.objs.size with
  | none => rfl
  | some o => exact absurd (Heap.lt_size q) (Nat.lt_irrefl _)
theorem list_ne_L {l : Addr} {items : Array Value} (hl : h.IsList l items) (hn : h.Ns L m) : l ≠ L := fun q => by
  obtain ⟨o, e, _, n, d⟩ := hl
  obtain ⟨o', es, ep, e', d', _⟩ := hn
  rw [q, e'] at e
  cases e
  rw [d] at d'
  cases d'
theorem for_list {env : Env} {x : PySem.Str} {px : Pos} {body : List Stmt} {l : Addr} {vs : List Value} {Q : Flow → Shared → Prop} (C : Cx g W h0 env.locals m s.heap) (hl : s.heap.IsList l vs.toArray) (lW : l ∉ W) (hA : A.handled = none)
    (hk : env.scope.kind = .function) (hx : env.kindOf x = some .local)
    (h : ∀ I h₁, s.heap.get? I = none → Cx g W h0 env.locals m h₁ → Keep2 [] s.heap h₁ → Turns w A E g W env x body Q s h0 I vs m h₁) :
    wpAny (MM w) A (pyIter (.ref l)) (fun it s₂ => codeAny (MM w) A (.forLoop (.Name x px) it body [] env) (fun r s' => match r with | .ok f => Q f s' | .error e => cameBackBy (MM w) A env E e s') s₂) E s := by
  refine wpAny_pyIter_list hl ?_
  have nI := none_of_size (h := s.heap)
  generalize hI : s.heap.objs.size = I at nI
  have get0 : ∀ b o, h0.get? b = some o → ∃ o', s.heap.get? b = some o' := C.k.live
  have n0 : h0.get? I = none := by
    cases q : h0.get? I with
    | none => rfl
    | some o => obtain ⟨o', e⟩ := get0 I o q; rw [nI] at e; cases e
  have ng : g.get? I = none := by
    cases q : g.get? I with
    | none => rfl
    | some o => have e := C.st.sub I o q; rw [nI] at e; cases e
  have nW : I ∉ W := fun q => by obtain ⟨o, e⟩ := C.st.live I q; rw [nI] at e; cases e
  have nL : I ≠ env.locals := fun q => by obtain ⟨o, _, _, e, _⟩ := C.ns; rw [← q, nI] at e; cases e
  have lI : l ≠ I := fun q => by obtain ⟨o, e, _⟩ := hl; rw [q, nI] at e; cases e
  have T := h I _ nI (C.go (Keep2.push (W := []) { cls := .type "list_iterator", data := .fields #[.ref l, .int 0 0] }) (fun _ q => nomatch q)) (Keep2.push _)
  refine codeAny_forLoop (fun n s' => ∃ i m' h' tk', n = vs.length - i ∧ i ≤ vs.length ∧ s' = { s with heap := h', toks := tk' } ∧ Cx g W h0 env.locals m' h' ∧ h'.IsListIter I l i ∧ h'.IsList l vs.toArray ∧
    Turns w A E g W env x body Q s h0 I (vs.drop i) m' h') ?_ vs.length
    ⟨0, m, _, s.toks, rfl, Nat.zero_le _, rfl, C.go (Keep2.push (W := []) _) (fun _ q => nomatch q), ⟨_, hI ▸ Heap.get?_push_size _ rfl, rfl, rfl⟩, hl.push _, T⟩
  intro n s' hI
  refine bc fun hGo => ?_
  obtain ⟨i, m', h', tk', rfl, hi, rfl, C', it, li, T'⟩ := hI
  refine hGo ?_; clear hGo
  by_cases c : i < vs.length
  · rw [List.drop_eq_getElem_cons c] at T'
    refine wpAny_pyNext_list_item it li (x := vs[i]) (by simp [c]) fun h2 it2 sb => ?_
    have kI : Keep2 [I] h' h2 := keep2_same sb (let ⟨o, e, _⟩ := it2; ⟨o, e⟩) (fun o q n => by obtain ⟨o', e, c, d⟩ := it; rw [q] at e; cases e; unfold Stab at n; rw [d] at n; simp at n)
    have C2 : Cx g W h0 env.locals m' h2 := C'.fresh kI n0 nL ng
    refine wpAny_assign_Name (store (s := { s with heap := h2, toks := tk' }) C2 (fun h3 C3 k3 => ?_) hk hx)
    have k23 : Keep2 [env.locals, I] h' h3 := (kI.more (by simp)).trans (k3.more (by simp))
    refine wpAny_mono (T' h3 _ C3.root k23 C3.k) (fun f s₃ hf => ?_) (fun _ _ y => y)
    have it3 : h3.IsListIter I l (i + 1) := by obtain ⟨o, e, y⟩ := it2; exact ⟨o, k3.keep I o e (by rw [List.mem_singleton]; exact nL), y⟩
    have li3 : h3.IsList l vs.toArray := let ⟨o, e, y⟩ := li; ⟨o, k23.keep l o e (by
      intro q
      rcases List.mem_cons.mp q with q | q
      · exact list_ne_L li C'.ns q
      · exact lI (List.mem_singleton.mp q)), y⟩
    have fin : (∃ h'' tk' m', s₃ = { s with heap := h'', toks := tk' } ∧ Cx g W h3 env.locals m' h'' ∧ Turns w A E g W env x body Q s h0 I (vs.drop (i + 1)) m' h'') → ∃ m_1, m_1 < vs.length - i ∧ ∃ i m' h' tk', m_1 = vs.length - i ∧ i ≤ vs.length ∧ s₃ = { s with heap := h', toks := tk' } ∧ Cx g W h0 env.locals m' h' ∧ h'.IsListIter I l i ∧ h'.IsList l vs.toArray ∧
        Turns w A E g W env x body Q s h0 I (vs.drop i) m' h' := by
      rintro ⟨h4, tk4, m4, rfl, C4, T4⟩
      refine ⟨vs.length - (i + 1), by omega, i + 1, m4, h4, tk4, rfl, c, rfl, C4.back C3.k, ?_, ?_, T4⟩
      · obtain ⟨o, e, y⟩ := it3
        exact ⟨o, C4.k.keep I o e (fun q => (List.mem_cons.mp q).elim (fun z => nL z) nW), y⟩
      · obtain ⟨o, e, y⟩ := li3
        exact ⟨o, C4.k.keep l o e (fun q => (List.mem_cons.mp q).elim (list_ne_L li C'.ns) lW), y⟩
    cases f with
    | next => exact fin hf.out
    | cont => exact fin hf.out
    | brk => exact hf
    | ret v => exact hf
  · have e : i = vs.length := by omega
    subst e
    refine wpAny_pyNext_list_end hA it li (by simp) fun h2 sb => ?_
    rw [List.drop_length] at T'
    have kb : ∀ b o, h'.get? b = some o → b ≠ I → h2.get? b = some o := fun b o q n => sb b o n q
    exact wpAny_execs_nil (T' h2 tk' (C'.over kb n0 nL ng nW) kb)
end
def Opq (R : Flow → Shared → Prop) (f : Flow) (s : Shared) : Prop := R f s
def Cut (M : Model) (A : Around) (rest : List Stmt) (env : Env) (Q : Flow → Shared → Prop) (E : Value → Shared → Prop) (R : Flow → Shared → Prop) : Prop :=
  (∀ s, wpAny M A (execs rest env) Q E s → R .next s) ∧ ∀ f s, f ≠ .next → Q f s → R f s
section
variable {M : Model} {A : Around} {rest : List Stmt} {env : Env} {Q R : Flow → Shared → Prop} {E : Value → Shared → Prop} {s : Shared}
theorem exC {st : Stmt} (h : ∀ R, Cut M A rest env Q E R → wpAny M A (exec st env) (Opq R) E s) : wpAny M A (execs (st :: rest) env) Q E s :=
  wpAny_execs_cons (h _ ⟨fun _ x => x, fun f _ n x => match f with
    | .next => absurd rfl n
    | .brk => x
    | .cont => x
    | .ret _ => x⟩)
theorem Cut.next (k : Cut M A rest env Q E R) (h : wpAny M A (execs rest env) Q E s) : Opq R .next s := k.1 _ h
theorem Cut.ret {v : Value} (k : Cut M A rest env Q E R) (h : Q (.ret v) s) : Opq R (.ret v) s := k.2 _ _ (fun e => by cases e) h
theorem Cut.brk (k : Cut M A rest env Q E R) (h : Q .brk s) : Opq R .brk s := k.2 _ _ (fun e => by cases e) h
theorem Cut.cont (k : Cut M A rest env Q E R) (h : Q .cont s) : Opq R .cont s := k.2 _ _ (fun e => by cases e) h
end
theorem said1 : True := by
  k_with "m:execs cons" => (refine exC ?_; intro Rₘ Kₘ; (try dsimp only))
  k_with "m:Opq next" => (refine Cut.next ‹_› ?_; (try dsimp only))
  k_with "m:Opq ret" => (refine Cut.ret ‹_› ?_; (try dsimp only))
  k_with "m:Opq brk" => (refine Cut.brk ‹_› ?_; (try dsimp only))
  k_with "m:Opq cont" => (refine Cut.cont ‹_› ?_; (try dsimp only))
  k_with "m:exec If" => refine wpAny_If ?_
  k_with "m:isTrue Compare" => refine wpAny_isTrue_Compare1 ?_
  k_with "m:eval Attribute Name" => refine Attribute_Name_ ?_
  k_with "m:eval Name" => refine n_l ‹_› (by with_unfolding_all rfl) ?_ (by kernel_rfl) (by kernel_rfl) (by kernel_rfl)
  k_with "m:eval Call" => refine wpAny_Call_NameR ?_
  k_with "m:eval Call Attribute" => refine MethodCall_ ?_
  k_with "m:callWith" => refine callWith_builtin1 ?_
  k_with "m:callWith ref" => first | (refine c_fn ‹_› ‹_› ?_ (by kernel_rfl!)) | (refine c_fn0 ‹_› ‹_› ?_ (by kernel_rfl!))
  k_with "m:getAttr ref" => with_reducible first
      | (refine g_at ‹_› (Cx.st ‹_›) ‹_› ‹_› ?_; intro _)
      | (refine g_tokens ‹_› (Cx.st ‹_›) ‹_› ‹_› ?_)
      | (refine g_kind ‹_› (Cx.st ‹_›) ‹_› ?_; intro _)
      | (refine g_worth ‹_› (Cx.st ‹_›) ‹_› ?_; intro _)
  k_with "m:getMethod ref" => refine m_rd ‹_› (Cx.st ‹_›) ‹_› ‹_› ?_ (by with_reducible first | exact mf_Reader___init__ _ | exact mf_Reader_peek _ | exact mf_Reader_is_done _ | exact mf_Reader_fault _ | exact mf_Reader_take _ | exact mf_Reader_is_kind _ | exact mf_Reader_is_word _ | exact mf_Reader_skip _ | exact mf_Reader_need _ | exact mf_Reader_one_of _ | exact mf_Reader_word _ | exact mf_Reader_is_name _ | exact mf_Reader_name _ | exact mf_Reader_names _ | exact mf_Reader_is_sign _ | exact mf_Reader_skip_sign _ | exact mf_Reader_need_sign _ | exact mf_Reader_is_number _ | exact mf_Reader_signed _ | exact mf_Reader_whole _ | exact mf_Reader_literal _ | exact mf_Reader_octets _) (by kernel_rfl) (by kernel_rfl) (fun _ _ _ _ => rfl)
  k_with "m:And" => refine ⟨Gd.keeps ‹_› (St.sub (Cx.st ‹_›)), ?_⟩
  k_with "m:storeName" => (walk_plain_pass; (first | refine storeL ‹_› ?_ (by kernel_rfl!) (by kernel_rfl!) | refine store ‹_› ?_ (by kernel_rfl!) (by kernel_rfl!)); intro hₘ Cₘ kₘ; (first | have Hₘ := RD.sto ‹_› ‹_› kₘ | have Hₘ := RD.st ‹_› ‹_› ‹_› kₘ | skip); walk_at "more")
  k_with "m:eval Attribute Call" => refine Attribute_any_ ?_
  k_with "m:b len" => refine n_b ‹_› ‹_› PyProof.Rows.Boot.len ?_ (by kernel_rfl) (by kernel_rfl) (by kernel_rfl) (by kernel_rfl) (by kernel_rfl) (by kernel_rfl) (by decide)
  k_with "m:more" => skip
  trivial
theorem C_peekA {k : Nat} {args : List Value} (ha : (∃ t, args = [.ref r, .int k t]) ∨ (args = [.ref r] ∧ k = 0)) {Q : Value → Shared → Prop} (G : Gd w g) (S : St g W s.heap) (R : RS w g r D tl nd toks ts) (H : RD w s.heap D tl p nd) (hd : A.depth < recursionLimit) (hp : p < 2 ^ 30) (hk : k < 2 ^ 30)
    (h : ∀ h' tk, Keep2 [] s.heap h' → Q ((toks[p + k]?).getD .none) { s with heap := h', toks := tk }) : wpAny (MM w) A (call (.ref 496) args) Q E s := by
  w_top off
  obtain ⟨t, hB⟩ : ∃ t, BindsTo s (fdOf (o496 w.params)) ⟨args, []⟩ [("self", .ref r), ("ahead", .int k t)] := by
    rcases ha with ⟨t, rfl⟩ | ⟨rfl, rfl⟩
    · exact ⟨t, BindsTo.of_defaults (T := 489) rfl (fn_at G S (f489 w)) rfl rfl rfl⟩
    · exact ⟨_, BindsTo.of_defaults (T := 489) rfl (fn_at G S (f489 w)) rfl rfl rfl⟩
  refine wpAny_call ?_
  refine enter2 (W := []) [("self", .ref r), ("ahead", .int k t)] G S.none ((fn_at G S (f496 w)).trans rfl) (by kernel_rfl) hd hB (locs rfl) ?_ (by decide)
  intro L h₁ tk C nL _
  refine noE ?_
  have H0 := H
  replace H := H.go (C.keep nL)
  have hn := R.few
  have hl := R.len
  have ll : ((toks.toArray.size : Nat) : Int) < 2 ^ 63 := by simp; omega
  repeat walk1
  refine n_b G C PyProof.Rows.Boot.len ?_ (by kernel_rfl) (by kernel_rfl) (by kernel_rfl) (by kernel_rfl) (by kernel_rfl) (by kernel_rfl) (by decide)
  repeat walk1
  refine call_len_list (R.isList C.st) ll ?_
  repeat walk1
  all_goals try dsimp only
  · rename_i c _
    have c' : p + k < toks.length := by simp at c; omega
    have ek : ((p : Int) + k).toNat = p + k := by omega
    refine l_item (R.isList C.st) (by omega) (by omega) (by rw [ek]; exact List.getElem?_eq_getElem c') ?_
    repeat walk1
    try dsimp only
    have e : (toks[p + k]?).getD .none = toks[p + k] := by rw [List.getElem?_eq_getElem c']; rfl
    rw [← e]
    exact h _ _ (C.keep nL)
  · rename_i c
    have c' : ¬ p + k < toks.length := by simp at c; omega
    refine wpAny_execs_nil ?_
    try dsimp only
    repeat walk1
    try dsimp only
    have e : (toks[p + k]?).getD .none = .none := by rw [List.getElem?_eq_none (by omega)]; rfl
    rw [← e]
    exact h _ _ (C.keep nL)
theorem C_peek {k : Nat} {t : Tok} {Q : Value → Shared → Prop} (G : Gd w g) (S : St g W s.heap) (R : RS w g r D tl nd toks ts) (H : RD w s.heap D tl p nd) (hd : A.depth < recursionLimit) (hp : p < 2 ^ 30) (hk : k < 2 ^ 30)
    (h : ∀ h' tk, Keep2 [] s.heap h' → Q ((toks[p + k]?).getD .none) { s with heap := h', toks := tk }) : wpAny (MM w) A (call (.ref 496) [.ref r, .int k t]) Q E s :=
  C_peekA (.inl ⟨t, rfl⟩) G S R H hd hp hk h
theorem C_peek0 {Q : Value → Shared → Prop} (G : Gd w g) (S : St g W s.heap) (R : RS w g r D tl nd toks ts) (H : RD w s.heap D tl p nd) (hd : A.depth < recursionLimit) (hp : p < 2 ^ 30)
    (h : ∀ h' tk, Keep2 [] s.heap h' → Q ((toks[p]?).getD .none) { s with heap := h', toks := tk }) : wpAny (MM w) A (call (.ref 496) [.ref r]) Q E s :=
  C_peekA (k := 0) (.inr ⟨rfl, rfl⟩) G S R H hd hp (by decide) h
theorem dpk {e : Env} {n k : Nat} (h : A.depth + n < recursionLimit) (l : k + 1 ≤ n) : (A.deeper e).depth + k < recursionLimit := by show A.depth + 1 + k < _; omega
theorem dpk0 {e : Env} {n : Nat} (h : A.depth + n < recursionLimit) (l : 1 ≤ n) : (A.deeper e).depth < recursionLimit := by show A.depth + 1 < _; omega
theorem dp1 {e : Env} {n : Nat} (h : A.depth + (n + 1) < recursionLimit) : (A.deeper e).depth + n < recursionLimit := by show A.depth + 1 + n < _; omega
theorem dp0 {e : Env} (h : A.depth + 1 < recursionLimit) : (A.deeper e).depth < recursionLimit := h
abbrev At (h : Heap) (v : Value) (d : PyData) : Prop := Reads h v d []
theorem At.go {h h' : Heap} {W : List Addr} {v : Value} {d : PyData} (k : Keep2 W h h') (r : At h v d) : At h' v d := reads_stab k.stab r
theorem C_peekT {k : Nat} {args : List Value} {t : Tx} {Q : Value → Shared → Prop} (ha : (∃ t, args = [.ref r, .int k t]) ∨ (args = [.ref r] ∧ k = 0)) (G : Gd w g) (S : St g W s.heap) (R : RS w g r D tl nd toks ts) (H : RD w s.heap D tl p nd) (hd : A.depth < recursionLimit) (hp : p < 2 ^ 30) (hk : k < 2 ^ 30)
    (ht : ts[p + k]? = some t)
    (h : ∀ a, TokAt w g (.ref a) (p + k) t → ∀ h' tk, Keep2 [] s.heap h' → Q (.ref a) { s with heap := h', toks := tk }) : wpAny (MM w) A (call (.ref 496) args) Q E s := by
  refine C_peekA ha G S R H hd hp hk fun h' tk k1 => ?_
  refine bc fun hGo => ?_
  obtain ⟨v, e, T⟩ := R.tok _ _ ht
  obtain ⟨a, hv⟩ : ∃ a, v = .ref a := by obtain ⟨a, _, _, _, _, _, _, _, _, _, _, _, hv, _⟩ := T; exact ⟨a, hv⟩
  refine hGo ?_; clear hGo
  subst hv
  rw [e]
  exact h a T h' tk k1
section
variable {w : World} {A : Around} {E : Value → Shared → Prop} {s : Shared} {g : Heap} {W : List Addr} {h0 : Heap} {m : PySem.Str → Option Value} {env : Env} {pos : Pos} {e1 e2 e3 e4 e5 : PySem.Expr} {v1 v2 v3 v4 v5 : Value} {t1 t2 t3 t4 t5 : Tok}
def argOf (env : Env) (m : PySem.Str → Option Value) (e : PySem.Expr) (t : Tok) : Option (Value × Tok) := match e with
  | .Name x _ => match env.kindOf x == some .local && !(x == "__debug__") with
    | true => match m x with
      | some v => some (v, t)
      | none => none
    | false => none
  | .Constant (.str x) _ _ => some (.str x t, t + 1)
  | .Constant (.int i) _ _ => some (.int i t, t + 1)
  | .Constant (.bool b) _ _ => some (.bool b, t)
  | .Constant .none _ _ => some (.none, t)
  | _ => none
theorem arg_ev {Q : Value → Shared → Prop} (C : Cx g W h0 env.locals m s.heap) (hk : env.scope.kind = .function) (ha : argOf env m e1 s.toks = some (v1, t1)) (h : Q v1 { s with toks := t1 }) : wpAny (MM w) A (eval e1 env) Q E s := by
  unfold argOf at ha
  split at ha
  · split at ha
    · rename_i c
      split at ha
      · rename_i hv
        cases ha
        have c2 := Bool.and_eq_true_iff.mp c
        exact n_l C hv h hk (eq_of_beq c2.1) (by simpa using c2.2)
      · cases ha
    · cases ha
  · cases ha; exact PySem.Calls.Constant_str h
  · cases ha; exact wpAny_Constant_int h
  · cases ha; exact wpAny_Constant_bool h
  · cases ha; exact wpAny_Constant_none h
  · cases ha
theorem arg_star {r : List PySem.Expr} {t : Tok} (ha : argOf env m e1 t = some (v1, t1)) : starEach (e1 :: r) env = (false, eval e1 env) :: starEach r env := by
  cases e1 <;> first | rfl | (unfold argOf at ha; cases ha)
theorem arg_more {r : List PySem.Expr} {Q : List Value → Shared → Prop} (C : Cx g W h0 env.locals m s.heap) (hk : env.scope.kind = .function) (ha : argOf env m e1 s.toks = some (v1, t1))
    (h : wpAny (MM w) A (spliced (backTo pos (starEach r env))) (fun vs s₂ => Q (v1 :: vs) s₂) E { s with toks := t1 }) : wpAny (MM w) A (spliced (backTo pos (starEach (e1 :: r) env))) Q E s :=
  spliced_more (arg_ev C hk ha h) (arg_star ha)
theorem sp1 {Q : List Value → Shared → Prop} (C : Cx g W h0 env.locals m s.heap) (hk : env.scope.kind = .function) (a1 : argOf env m e1 s.toks = some (v1, t1)) (h : Q [v1] { s with toks := t1 }) : wpAny (MM w) A (spliced (backTo pos (starEach [e1] env))) Q E s :=
  arg_more C hk a1 (spliced_none h)
theorem sp2 {Q : List Value → Shared → Prop} (C : Cx g W h0 env.locals m s.heap) (hk : env.scope.kind = .function) (a1 : argOf env m e1 s.toks = some (v1, t1)) (a2 : argOf env m e2 t1 = some (v2, t2)) (h : Q [v1, v2] { s with toks := t2 }) : wpAny (MM w) A (spliced (backTo pos (starEach [e1, e2] env))) Q E s :=
  arg_more C hk a1 (sp1 (s := { s with toks := t1 }) C hk a2 h)
theorem sp3 {Q : List Value → Shared → Prop} (C : Cx g W h0 env.locals m s.heap) (hk : env.scope.kind = .function) (a1 : argOf env m e1 s.toks = some (v1, t1)) (a2 : argOf env m e2 t1 = some (v2, t2)) (a3 : argOf env m e3 t2 = some (v3, t3)) (h : Q [v1, v2, v3] { s with toks := t3 }) : wpAny (MM w) A (spliced (backTo pos (starEach [e1, e2, e3] env))) Q E s :=
  arg_more C hk a1 (sp2 (s := { s with toks := t1 }) C hk a2 a3 h)
theorem sp4 {Q : List Value → Shared → Prop} (C : Cx g W h0 env.locals m s.heap) (hk : env.scope.kind = .function) (a1 : argOf env m e1 s.toks = some (v1, t1)) (a2 : argOf env m e2 t1 = some (v2, t2)) (a3 : argOf env m e3 t2 = some (v3, t3)) (a4 : argOf env m e4 t3 = some (v4, t4)) (h : Q [v1, v2, v3, v4] { s with toks := t4 }) : wpAny (MM w) A (spliced (backTo pos (starEach [e1, e2, e3, e4] env))) Q E s :=
  arg_more C hk a1 (sp3 (s := { s with toks := t1 }) C hk a2 a3 a4 h)
end
theorem said2 : True := by
  k_with "m:spliced" => (walk_plain_pass; first
      | (with_reducible show wpAny _ _ (spliced (backTo _ (starEach [_] _))) _ _ _); refine sp1 ‹_› (by kernel_rfl) (by with_unfolding_all rfl) ?_; try dsimp only [List.nil_append]
      | (with_reducible show wpAny _ _ (spliced (backTo _ (starEach [_, _] _))) _ _ _); refine sp2 ‹_› (by kernel_rfl) (by with_unfolding_all rfl) (by with_unfolding_all rfl) ?_; try dsimp only [List.nil_append]
      | (with_reducible show wpAny _ _ (spliced (backTo _ (starEach [_, _, _] _))) _ _ _); refine sp3 ‹_› (by kernel_rfl) (by with_unfolding_all rfl) (by with_unfolding_all rfl) (by with_unfolding_all rfl) ?_; try dsimp only [List.nil_append]
      | (with_reducible show wpAny _ _ (spliced (backTo _ (starEach [_, _, _, _] _))) _ _ _); refine sp4 ‹_› (by kernel_rfl) (by with_unfolding_all rfl) (by with_unfolding_all rfl) (by with_unfolding_all rfl) (by with_unfolding_all rfl) ?_; try dsimp only [List.nil_append]
      | fail "sp")
  trivial
theorem m0 {a : Addr} {l : List Addr} : a ∈ a :: l := .head _
theorem m1 {a b : Addr} {l : List Addr} : a ∈ b :: a :: l := .tail _ (.head _)
theorem m2 {a b c : Addr} {l : List Addr} : a ∈ b :: c :: a :: l := .tail _ (.tail _ (.head _))
theorem m3 {a b c d : Addr} {l : List Addr} : a ∈ b :: c :: d :: a :: l := .tail _ (.tail _ (.tail _ (.head _)))
theorem subN {W : List Addr} : ∀ x ∈ ([] : List Addr), x ∈ W := fun _ h => nomatch h
theorem subR {W : List Addr} : ∀ x ∈ W, x ∈ W := fun _ h => h
theorem sub1 {W : List Addr} {a : Addr} (h : a ∈ W) : ∀ x ∈ [a], x ∈ W := fun _ q => List.mem_singleton.mp q ▸ h
theorem subC {W : List Addr} {a : Addr} {l : List Addr} (h : a ∈ W) (k : ∀ x ∈ l, x ∈ W) : ∀ x ∈ a :: l, x ∈ W := fun x q => (List.mem_cons.mp q).elim (fun e => e ▸ h) (k x)
theorem l29 {p : Nat} (h : p < 2 ^ 20) : p < 2 ^ 29 := by omega
theorem l29s {p : Nat} (h : p < 2 ^ 20) : p + 1 < 2 ^ 29 := by omega
theorem l29t {p : Nat} (h : p < 2 ^ 20) : p + 1 + 1 < 2 ^ 29 := by omega
theorem l29u {p : Nat} (h : p < 2 ^ 20) : p + 2 < 2 ^ 29 := by omega
theorem l30 {p : Nat} (h : p < 2 ^ 29) : p < 2 ^ 30 := by omega
theorem l30s {p : Nat} (h : p < 2 ^ 29) : p + 1 < 2 ^ 30 := by omega
theorem l30k : 0 < 2 ^ 30 := by decide
theorem l30l : 1 < 2 ^ 30 := by decide
section
variable {A : Around} {e : Env}
theorem dpb {n k : Nat} (h : A.depth + n < recursionLimit) (l : Nat.ble (k + 1) n = true) : (A.deeper e).depth + k < recursionLimit := dpk h (Nat.le_of_ble_eq_true l)
theorem dpb0 {n : Nat} (h : A.depth + n < recursionLimit) (l : Nat.ble 1 n = true) : (A.deeper e).depth < recursionLimit := dpk0 h (Nat.le_of_ble_eq_true l)
theorem dpm {a c k : Nat} (h : A.depth + a + c < recursionLimit) (l : Nat.ble (k + 1) a = true) : (A.deeper e).depth + k < recursionLimit := dpk (n := a) (by omega) (Nat.le_of_ble_eq_true l)
theorem dpm0 {a c : Nat} (h : A.depth + a + c < recursionLimit) (l : Nat.ble 1 a = true) : (A.deeper e).depth < recursionLimit := dpk0 (n := a) (by omega) (Nat.le_of_ble_eq_true l)
theorem dpn {a c k : Nat} (h : A.depth + a + c < recursionLimit) (l : Nat.ble (k + 1) a = true) : (A.deeper e).depth + k + c < recursionLimit := by
  have := Nat.le_of_ble_eq_true l
  show A.depth + 1 + k + c < _; omega
theorem dpr {n : Nat} (h : A.depth + n < recursionLimit) : A.depth < recursionLimit := by omega
theorem dpq {a c : Nat} (h : A.depth + a + c < recursionLimit) : A.depth < recursionLimit := by omega
end
section
variable {w : World} {A : Around} {E : Value → Shared → Prop} {s : Shared} {g : Heap} {W : List Addr}
theorem Cx.gs {h0 h h' : Heap} {L : Addr} {m : PySem.Str → Option Value} {W' : List Addr} (C : Cx g W h0 L m h) (k : Keep2 W' h h') (s : ∀ x ∈ W', x ∈ W := by walk_at "sm") : Cx g W h0 L m h' := C.go k s
theorem RD.gs {h h' : Heap} {D tl : Addr} {p : Nat} {nd : Value} {W : List Addr} (H : RD w h D tl p nd) (k : Keep2 W h h') (n : D ∉ W := by walk_at "sm") : RD w h' D tl p nd := H.go k n
def Opf (Q : Value → Shared → Prop) (f : Flow) (s : Shared) : Prop := Q (match f with | .ret v => v | _ => .none) s
theorem Opf.ret {Q : Value → Shared → Prop} {v : Value} (h : Q v s) : Opf Q (.ret v) s := h
theorem Opf.next {Q : Value → Shared → Prop} (h : Q .none s) : Opf Q .next s := h
def noCell (l : List (PySem.Str × NameKind)) : Bool := l.all fun x => match x.2 with
  | .cell => false
  | _ => true
theorem enterN {Q : Value → Shared → Prop} {f : Addr} {name qual : PySem.Str} {params : Arguments} {body : List Stmt} {scope : Scope} {cl : List (PySem.Str × Addr)} {dV kV doc pm cdv ct oc : Value} {an od : Option Addr}
    {osl : Array (Option Value)} {vals : List Value} (binds : List (PySem.Str × Value))
    (G : Gd w g) (S : St g W s.heap) (ho : s.heap.get? f = some ⟨oc, od, .func (fnX name qual params body scope cl dV kV doc pm an cdv ct), osl⟩) (hcd : codeIn (K w.params) cdv qual = true) (hroom : A.depth < recursionLimit)
    (hbind : BindsTo s (fnX name qual params body scope cl dV kV doc pm an cdv ct) ⟨vals, []⟩ binds) (hloc : ∀ y ∈ binds, scope.names.lookup y.1 = some .local)
    (h : ∀ L h₁ tk, Cx g W s.heap L (lk binds.reverse) h₁ → s.heap.get? L = none → (∀ b o, s.heap.get? b = some o → h₁.get? b = some o) →
      wpAny (MM w) (A.deeper (envX qual scope L f cdv cl)) (execs body (envX qual scope L f cdv cl)) (Opf Q) (fun _ _ => False) { s with heap := h₁, toks := tk })
    (hcell : noCell scope.names = true) (hco : scope.isCoroutine = false := by rfl) (hgen : scope.isGenerator = false := by rfl) (hk : scope.kind = .function := by rfl) : wpAny (MM w) A (call (.ref f) vals) Q E s :=
  wpAny_call (enter2 binds G S ho hcd hroom hbind hloc (fun L h₁ tk C n k => noE (h L h₁ tk C n k)) (fun x q e => by
    have := List.all_eq_true.mp hcell x q
    rw [e] at this
    cases this) hco hgen hk)
end
def locOk (env : Env) (x : PySem.Str) : Bool := env.scope.kind == .function && (env.kindOf x == some .local && !(x == "__debug__"))
def locAt (env : Env) (x : PySem.Str) (l : List (PySem.Str × Value)) : Option Value := match locOk env x with
  | true => lk l x
  | false => none
def gloOk (env : Env) (x : PySem.Str) : Bool := Nat.beq env.globals mainGlobals && (env.scope.kind == .function && (env.kindOf x == some .globalImplicit && !(x == "__debug__")))
def bltOk (env : Env) (x : PySem.Str) : Bool := gloOk env x && (Nat.beq env.builtins builtinsNs && !(x == "__name__"))
section
variable {w : World} {A : Around} {E : Value → Shared → Prop} {s : Shared} {g : Heap} {W : List Addr} {h0 : Heap} {L : Addr} {m : PySem.Str → Option Value} {env : Env} {x : PySem.Str} {pos : Pos} {v : Value} {l : List (PySem.Str × Value)}
theorem n_L {Q : Value → Shared → Prop} (C : Cx g W h0 env.locals (lk l) s.heap) (hv : locAt env x l = some v) (h : Q v s) : wpAny (MM w) A (eval (.Name x pos) env) Q E s := by
  unfold locAt at hv
  split at hv
  · rename_i o
    have o1 := Bool.and_eq_true_iff.mp o
    have o2 := Bool.and_eq_true_iff.mp o1.2
    exact n_l C hv h (eq_of_beq o1.1) (eq_of_beq o2.1) (by simpa using o2.2)
  · cases hv
theorem stK {Q : Unit → Shared → Prop} (C : Cx g W h0 L (lk l) s.heap) (h : ∀ h', Cx g W h0 L (lk ((x, v) :: l)) h' → Keep2 [L] s.heap h' → Q () { s with heap := h', toks := s.toks + 1 }) (o : locOk env x = true) (hL : env.locals = L := by rfl) : wpAny (MM w) A (storeName env x v) Q E s :=
  have o1 := Bool.and_eq_true_iff.mp o
  have o2 := Bool.and_eq_true_iff.mp o1.2
  storeL C h (eq_of_beq o1.1) (eq_of_beq o2.1) hL
theorem n_G {Q : Value → Shared → Prop} (G : Gd w g) (C : Cx g W h0 L m s.heap) (e : nsIn (K w.params) mainGlobals x = some (some v)) (h : Q v s) (o : gloOk env x = true) : wpAny (MM w) A (eval (.Name x pos) env) Q E s :=
  have o1 := Bool.and_eq_true_iff.mp o
  have o2 := Bool.and_eq_true_iff.mp o1.2
  have o3 := Bool.and_eq_true_iff.mp o2.2
  n_g G C e h (Nat.eq_of_beq_eq_true o1.1) (eq_of_beq o2.1) (eq_of_beq o3.1) (by simpa using o3.2)
theorem n_B {Q : Value → Shared → Prop} (G : Gd w g) (C : Cx g W h0 L m s.heap) (hv : bootBuiltins x = some v) (h : Q v s) (e : nsIn (K w.params) mainGlobals x = some none) (o : bltOk env x = true) : wpAny (MM w) A (eval (.Name x pos) env) Q E s :=
  have p := Bool.and_eq_true_iff.mp o
  have o1 := Bool.and_eq_true_iff.mp p.1
  have o2 := Bool.and_eq_true_iff.mp o1.2
  have o3 := Bool.and_eq_true_iff.mp o2.2
  have o4 := Bool.and_eq_true_iff.mp p.2
  n_b G C hv h e (Nat.eq_of_beq_eq_true o1.1) (Nat.eq_of_beq_eq_true o4.1) (eq_of_beq o2.1) (eq_of_beq o3.1) (by simpa using o3.2) (by simpa using o4.2)
theorem m_rdK {D tl : Addr} {p : Nat} {nd : Value} {toks : List Value} {ts : List Tx} {r : Addr} {name : PySem.Str} {pl : Sem Bool} {Q : Value × List Value → Shared → Prop} {f : Addr} (G : Gd w g) (S : St g W s.heap) (R : RS w g r D tl nd toks ts) (H : RD w s.heap D tl p nd)
    (h : Q (.ref f, [.ref r]) s) (hf : findIn (K w.params) (.ref 642) name = some (some (.ref f))) (o : (plainGet (K w.params) 642 name && isFn (K w.params) (.ref f)) = true) (hl : ∀ t0 t1 t2 t3, getL name (rdict w tl p nd t0 t1 t2 t3) = some none) :
    wpAny (MM w) A (getMethod (.ref r) name pl) Q E s :=
  have o1 := Bool.and_eq_true_iff.mp o
  m_rd G S R H h hf o1.1 o1.2 hl
end
theorem said3 : True := by
  k_with "m:Opf ret" => (refine Opf.ret ?_; (try dsimp only))
  k_with "m:Opf next" => (refine Opf.next ?_; (try dsimp only))
  k_with "m:me" => first | assumption | exact m0 | exact m1 | exact m2 | exact m3 | (simp; done) | fail "me"
  k_with "m:sm" => first | (with_reducible first | exact List.not_mem_nil | exact subR | exact subN | exact m0 | exact m1 | exact m2 | exact m3 | assumption | exact sub1 (by walk_at "me") | exact subC (by walk_at "me") (by walk_at "sm")) | (simp; done) | fail "sm"
  k_with "m:om" => first | (with_reducible first | assumption | exact l29 ‹_› | exact l29s ‹_› | exact l30 ‹_› | exact l30s ‹_› | exact l29t ‹_› | exact l29u ‹_› | exact l30k | exact l30l) | omega | fail "om"
  k_with "m:eval Name" => refine n_l ‹_› (by with_unfolding_all rfl) ?_ (by kernel_rfl) (by kernel_rfl) (by kernel_rfl)
  k_with "m:eval Name" => refine n_L ‹_› (by with_unfolding_all rfl) ?_
  k_with "m:dq" => first | exact dpr ‹_› | exact dpq ‹_› | omega | fail "dq"
  k_with "m:dr" => first | exact dpn ‹_› (by rfl) | exact dpb ‹_› (by rfl) | exact dpm ‹_› (by rfl) | exact dpb0 ‹_› (by rfl) | exact dpm0 ‹_› (by rfl) | fail "dr"
  trivial
section
variable {w : World} {A : Around} {E : Value → Shared → Prop} {s : Shared}
theorem one_named {h : Heap} {N : Addr} {v : Value} {x : PySem.Str} (d : h.DictOf (strKind PP w) N [(x, v)]) : ∃ t n, h.get? N = some (dictOf [⟨PyData.keyHash w.params x, .str x t, v⟩] n) := by
  obtain ⟨o, es, ep, e, ex, hd, hk, hp, _⟩ := d
  obtain ⟨el⟩ := es
  cases hp with
  | @cons e0 _ es2 _ h1 h2 h3 =>
    cases h3
    obtain ⟨k, k1, k2⟩ := hk e0 (by simp)
    have ek : k = x := (strKind PP w).inj _ _ _ k1 h1
    subst ek
    obtain ⟨t, et⟩ := Value.isStrOf_shape h1
    obtain ⟨hh, ky, vv⟩ := e0
    obtain ⟨c, dd, dt, sl⟩ := o
    obtain ⟨c1, c2, c3⟩ := ex
    simp only at c1 c2 c3 hd k2 et h2
    subst c1 c2 c3 hd et h2
    exact ⟨t, ep, by rw [e, k2]; rfl⟩
theorem new_named {p1 p2 pos : Pos} {env : Env} {Q : Value → Shared → Prop} (lo : 1 < s.heap.objs.size)
    (h : ∀ N h' tk t n, Keep2 [] s.heap h' → s.heap.get? N = none → (N == sysModules) = false → h'.get? N = some (dictOf [⟨kh w "DONE", .str "DONE" t, .bool true⟩] n) → Q (.ref N) { s with heap := h', toks := tk }) :
    wpAny (MM w) A (eval (.Dict [some (.Constant (.str "DONE") 0 p1)] [.Constant (.bool true) 0 p2] pos) env) Q E s := by
  w_top off
  refine wpAny_Dict_walk (knd := strKind PP w) rfl rfl (by simp) (by simp) ?_
  repeat walk1
  rotate_left 2
  · exact [(ofString "DONE", Value.bool true)]
  · exact ⟨rfl, rfl, trivial⟩
  refine ⟨⟨_, #[], 0, Heap.get?_push_size _ rfl, ⟨rfl, rfl, rfl⟩, rfl, fun _ q => by simp at q, .nil, List.nodup_nil⟩, fun h' d sb => ?_⟩
  refine bc fun hGo => ?_
  obtain ⟨t, n, e⟩ := one_named (x := ofString "DONE") (v := .bool true) d
  refine hGo ?_; clear hGo
  have kb : Keep2 [] s.heap h' := Keep2.all fun b o q => (sb.2 b fun z => by rw [z, none_of_size] at q; cases q).trans (Heap.get?_push_of_some _ q)
  exact h _ h' _ t n kb none_of_size (beq_false_of_ne fun q => by rw [show s.heap.objs.size = 1 from q] at lo; exact Nat.lt_irrefl _ lo) e
end
def kindIs (ts : List Tx) (i : Nat) (x : PySem.Str) : Bool := match ts[i]? with
  | some t => t.1 == x
  | none => false
theorem C_is_kindA {x : PySem.Str} {k : Nat} {t' : Tok} {args : List Value} {b : Bool} (ha : (∃ t, args = [.ref r, .str x t', .int k t]) ∨ (args = [.ref r, .str x t'] ∧ k = 0)) {Q : Value → Shared → Prop} (G : Gd w g) (S : St g W s.heap) (R : RS w g r D tl nd toks ts) (H : RD w s.heap D tl p nd) (hd : A.depth + 1 < recursionLimit) (hp : p < 2 ^ 30) (hk : k < 2 ^ 30) (hb : kindIs ts (p + k) x = b)
    (h : ∀ h' tk, Keep2 [] s.heap h' → Q (.bool b) { s with heap := h', toks := tk }) : wpAny (MM w) A (call (.ref 525) args) Q E s := by
  w_top off
  subst hb
  obtain ⟨t, hB⟩ : ∃ t, BindsTo s (fdOf (o525 w.params)) ⟨args, []⟩ [("self", .ref r), ("kind", .str x t'), ("ahead", .int k t)] := by
    rcases ha with ⟨t, rfl⟩ | ⟨rfl, rfl⟩
    · exact ⟨t, BindsTo.of_defaults (T := 518) rfl (fn_at G S (f518 w)) rfl rfl rfl⟩
    · exact ⟨_, BindsTo.of_defaults (T := 518) rfl (fn_at G S (f518 w)) rfl rfl rfl⟩
  refine enterN (W := []) [("self", .ref r), ("kind", .str x t'), ("ahead", .int k t)] G S.none ((fn_at G S (f525 w)).trans rfl) (by kernel_rfl) (by walk_at "dq") hB (locs rfl) ?_ (by rfl)
  intro L h₁ tk C nL _
  have H0 := H
  replace H := H.gs (C.keep nL)
  repeat walk1
  refine C_peek G C.st R H (by first | walk_at "dr" | (show A.depth + 1 < _; omega)) hp hk fun h' tk' k1 => ?_
  replace C := C.gs k1
  replace H := H.gs k1
  try dsimp only
  cases c : ts[p + k]? with
  | none =>
    have e : toks[p + k]? = none := by
      rw [List.getElem?_eq_none_iff] at c ⊢; rw [R.len]; exact c
    have e2 : kindIs ts (p + k) x = false := by unfold kindIs; rw [c]
    rw [e]
    rw [e2] at h
    dsimp only [Option.getD]
    repeat walk1
    try dsimp only
    exact h _ _ (Cx.keep (by assumption) nL)
  | some t =>
    refine bc fun hGo => ?_
    obtain ⟨v, e, T⟩ := R.tok _ _ c
    refine hGo ?_; clear hGo
    have e2 : kindIs ts (p + k) x = (t.1 == x) := by unfold kindIs; rw [c]
    refine bc fun hGo => ?_
    obtain ⟨a, hv⟩ : ∃ a, v = .ref a := by obtain ⟨a, _, _, _, _, _, _, _, _, _, _, _, hv, _⟩ := T; exact ⟨a, hv⟩
    refine hGo ?_; clear hGo
    subst hv
    rw [e]
    rw [e2] at h
    dsimp only [Option.getD]
    repeat walk1
    try dsimp only
    exact h _ _ (Cx.keep (by assumption) nL)
theorem C_is_kind {x : PySem.Str} {k : Nat} {t t' : Tok} {Q : Value → Shared → Prop} (G : Gd w g) (S : St g W s.heap) (R : RS w g r D tl nd toks ts) (H : RD w s.heap D tl p nd) (hd : A.depth + 1 < recursionLimit) (hp : p < 2 ^ 30) (hk : k < 2 ^ 30)
    (h : ∀ h' tk, Keep2 [] s.heap h' → Q (.bool (kindIs ts (p + k) x)) { s with heap := h', toks := tk }) : wpAny (MM w) A (call (.ref 525) [.ref r, .str x t', .int k t]) Q E s :=
  C_is_kindA (.inl ⟨t, rfl⟩) G S R H hd hp hk rfl h
def tokIs (ts : List Tx) (i : Nat) (k x : PySem.Str) : Bool := match ts[i]? with
  | some t => t.1 == k && t.2 == x
  | none => false
theorem kind_of_none {i : Nat} {x : PySem.Str} (c : ts[i]? = none) : kindIs ts i x = false := by unfold kindIs; rw [c]
theorem kind_of_some {i : Nat} {x : PySem.Str} {t : Tx} (c : ts[i]? = some t) : kindIs ts i x = (t.1 == x) := by unfold kindIs; rw [c]
theorem tok_of_none {i : Nat} {k x : PySem.Str} (c : ts[i]? = none) : tokIs ts i k x = false := by unfold tokIs; rw [c]
theorem tok_of_some {i : Nat} {k x : PySem.Str} {t : Tx} (c : ts[i]? = some t) : tokIs ts i k x = (t.1 == k && t.2 == x) := by unfold tokIs; rw [c]
theorem C_is_signA {x : PySem.Str} {k : Nat} {t' : Tok} {args : List Value} {b : Bool} (ha : (∃ t, args = [.ref r, .str x t', .int k t]) ∨ (args = [.ref r, .str x t'] ∧ k = 0)) {Q : Value → Shared → Prop} (G : Gd w g) (S : St g W s.heap) (R : RS w g r D tl nd toks ts) (H : RD w s.heap D tl p nd) (hd : A.depth + 2 < recursionLimit) (hp : p < 2 ^ 30) (hk : k < 2 ^ 30) (hb : tokIs ts (p + k) "sign" x = b)
    (h : ∀ h' tk, Keep2 [] s.heap h' → Q (.bool b) { s with heap := h', toks := tk }) : wpAny (MM w) A (call (.ref 590) args) Q E s := by
  w_top off
  subst hb
  obtain ⟨t, hB⟩ : ∃ t, BindsTo s (fdOf (o590 w.params)) ⟨args, []⟩ [("self", .ref r), ("sign", .str x t'), ("ahead", .int k t)] := by
    rcases ha with ⟨t, rfl⟩ | ⟨rfl, rfl⟩
    · exact ⟨t, BindsTo.of_defaults (T := 583) rfl (fn_at G S (f583 w)) rfl rfl rfl⟩
    · exact ⟨_, BindsTo.of_defaults (T := 583) rfl (fn_at G S (f583 w)) rfl rfl rfl⟩
  refine enterN (W := []) [("self", .ref r), ("sign", .str x t'), ("ahead", .int k t)] G S.none ((fn_at G S (f590 w)).trans rfl) (by kernel_rfl) (by walk_at "dq") hB (locs rfl) ?_ (by rfl)
  intro L h₁ tk C nL _
  have H0 := H
  replace H := H.gs (C.keep nL)
  repeat walk1
  refine C_is_kind G C.st R H (by first | walk_at "dr" | (show A.depth + 1 + 1 < _; omega)) hp hk fun h' tk' k1 => ?_
  replace C := C.gs k1
  replace H := H.gs k1
  try dsimp only
  cases c : ts[p + k]? with
  | none =>
    rw [kind_of_none c]
    rw [tok_of_none c] at h
    repeat walk1
    try dsimp only
    exact h _ _ (Cx.keep (by assumption) nL)
  | some t =>
    rw [kind_of_some c]
    rw [tok_of_some c] at h
    refine bc fun hGo => ?_
    obtain ⟨v, e, T⟩ := R.tok _ _ c
    obtain ⟨a, hv⟩ : ∃ a, v = .ref a := by obtain ⟨a, _, _, _, _, _, _, _, _, _, _, _, hv, _⟩ := T; exact ⟨a, hv⟩
    refine hGo ?_; clear hGo
    subst hv
    cases b : t.1 == (ofString "sign") with
    | false =>
      rw [b] at h
      repeat walk1
      try dsimp only
      exact h _ _ (Cx.keep (by assumption) nL)
    | true =>
      rw [b] at h
      repeat walk1
      refine C_peek G C.st R H (by first | walk_at "dr" | (show A.depth + 1 < _; omega)) hp hk fun h' tk' k1 => ?_
      replace C := C.gs k1
      replace H := H.gs k1
      rw [e]
      try dsimp only [Option.getD]
      repeat walk1
      try dsimp only
      exact h _ _ (Cx.keep (by assumption) nL)
theorem keptH {h : Heap} : KeptH (Keep2 [] h) := fun _ _ k => k.trans (Keep2.push _)
theorem split_list {x y : PySem.Str} {t u : Tok} {Q : Value → Shared → Prop} (hy : (y.length == 0) = false) (hl : x.length < 1000)
    (h : ∀ l xs h' tk, xs.map (·.1) = Txt.split x y → Keep2 [] s.heap h' → h'.IsList l (strValues xs).toArray → Q (.ref l) { s with heap := h', toks := tk }) :
    wpAny (MM w) A (call (.builtin "str.split") [.str x t, .str y u]) Q E s :=
  SCH.split1 (P := Keep2 [] s.heap) keptH .refl hy (fun l xs h' tk e k i => h l xs h' tk e k i) (by rw [PySem.sizeLine_eq]; omega) (by
    have e1 := StrLaws.occ_length_le x y 0 x.length (x.length + 1)
    rw [PySem.length_partsBetween, PySem.sizeLine_eq]; omega)
theorem C_is_word {x : PySem.Str} {t' : Tok} {Q : Value → Shared → Prop} (G : Gd w g) (S : St g W s.heap) (R : RS w g r D tl nd toks ts) (H : RD w s.heap D tl p nd) (hh : A.handled = none) (hd : A.depth + 2 < recursionLimit) (hp : p < 2 ^ 29)
    (hx : Txt.split x (ofString " ") = [x]) (hl : x.length < 1000)
    (h : ∀ h' tk, Keep2 [] s.heap h' → Q (.bool (tokIs ts p "word" x)) { s with heap := h', toks := tk }) : wpAny (MM w) A (call (.ref 532) [.ref r, .str x t']) Q E s := by
  w_top off
  refine enterN (W := []) [("self", .ref r), ("words", .str x t')] G S.none ((fn_at G S (f532 w)).trans rfl) (by kernel_rfl) (by walk_at "dq") (BindsTo.of_eq rfl) (locs rfl) ?_ (by rfl)
  intro L h₁ tk C nL _
  have H0 := H
  replace H := H.gs (C.keep nL)
  repeat walk1
  refine wpAny_For ?_
  repeat walk1
  rename Cx _ _ _ _ _ _ => C1; rename Keep2 _ _ _ => k1; rename RD _ _ _ _ _ _ => H1
  refine split_list (by decide) hl fun l xs h2 tk2 e k i => ?_
  replace C1 := C1.gs k
  replace H1 := H1.gs k
  rw [hx] at e
  obtain ⟨t2, hxs⟩ : ∃ t2, xs = [(x, t2)] := by
    cases xs with
    | nil => cases e
    | cons a b =>
      obtain ⟨a1, a2⟩ := a
      simp only [List.map_cons, List.cons.injEq, List.map_eq_nil_iff] at e
      obtain ⟨rfl, rfl⟩ := e
      exact ⟨a2, rfl⟩
  subst hxs
  refine for_list C1 i (by simp) (by exact hh) (by kernel_rfl) (by kernel_rfl) fun I h3 nI C2 k2 => ?_
  have H2 := H1.gs k2
  intro h4 tk4 C3 k3 k4
  have H3 : RD w h4 D tl p nd := H2.gs k3 (by
    intro q
    rcases List.mem_cons.mp q with q | q
    · exact ne_of_live H0.live nL q
    · exact ne_of_live H1.live nI (List.mem_singleton.mp q))
  repeat walk1
  refine C_is_kind (k := 0) G C3.st R H3 (by first | walk_at "dr" | (show A.depth + 1 + 1 < _; omega)) (by omega) (by omega) fun h5 tk5 k5 => ?_
  have C4 := C3.gs k5
  have H4 := H3.gs k5
  try dsimp only
  rw [Nat.add_zero]
  have back : ∀ {h' : Heap} {m' : PySem.Str → Option Value}, Cx g [] h4 L m' h' → Keep2 [] s.heap h' := fun c => (c.back k4).keep nL
  cases c : ts[p]? with
  | none =>
    rw [kind_of_none c]
    rw [tok_of_none c] at h
    repeat walk1
    try dsimp only
    exact h _ _ (back (by assumption))
  | some t =>
    rw [kind_of_some c]
    rw [tok_of_some c] at h
    refine bc fun hGo => ?_
    obtain ⟨v, e, T⟩ := R.tok _ _ c
    obtain ⟨a, hv⟩ : ∃ a, v = .ref a := by obtain ⟨a, _, _, _, _, _, _, _, _, _, _, _, hv, _⟩ := T; exact ⟨a, hv⟩
    refine hGo ?_; clear hGo
    subst hv
    cases b : t.1 == (ofString "word") with
    | false =>
      rw [b] at h
      repeat walk1
      try dsimp only
      exact h _ _ (back (by assumption))
    | true =>
      rw [b] at h
      repeat walk1
      refine C_peek (k := 0) G C4.st R H4 (by first | walk_at "dr" | (show A.depth + 1 < _; omega)) (by omega) (by omega) fun h6 tk6 k6 => ?_
      have C5 := C4.gs k6
      have H5 := H4.gs k6
      rw [Nat.add_zero, e]
      try dsimp only [Option.getD]
      repeat walk1
      · rename_i q
        have q' : (t.2 == x) = false := by simpa [bne] using q
        rw [q'] at h
        try dsimp only
        exact h _ _ (back C5)
      · rename_i q
        have q' : (t.2 == x) = true := by simpa [bne] using q
        rw [q'] at h
        refine PyProof.Rows.isTrue_or_nil ?_
        try dsimp only
        repeat walk1
        dsimp only
        refine ⟨⟨_, _, _, rfl, by assumption, fun h8 tk8 C8 k8 => ?_⟩⟩
        dsimp only
        repeat walk1
        try dsimp only
        exact h _ _ (C8.keep nL)
theorem set_at {Q : Unit → Shared → Prop} {h0 : Heap} {L : Addr} {m : PySem.Str → Option Value} {p' : Nat} {t : Tok} (G : Gd w g) (C : Cx g W h0 L m s.heap) (R : RS w g r D tl nd toks ts) (H : RD w s.heap D tl p nd) (hD : D ∈ W)
    (h : ∀ h', Cx g W h0 L m h' → RD w h' D tl p' nd → Keep2 [D, L] s.heap h' → Q () { s with heap := h', toks := s.toks + 2 }) :
    wpAny (MM w) A (setAttr (.ref r) "at" (.int p' t)) Q E s := by
  refine bc fun hGo => ?_
  obtain ⟨t0, t1, t2, t3, n, e⟩ := H
  refine hGo ?_; clear hGo
  refine set_attr (es' := rdict w tl p' nd t0 t1 t t3) (n' := n) G C (C.st.sub _ _ R.inst) e hD (by kernel_rfl) (by kernel_rfl) (by kernel_rfl) (by kernel_rfl) rfl (by rfl) (by simp [rdict]) fun h' C' k e' => h h' C' ⟨_, _, _, _, _, e'⟩ k
theorem C_skip {x : PySem.Str} {t' : Tok} {Q : Value → Shared → Prop} (G : Gd w g) (S : St g W s.heap) (R : RS w g r D tl nd toks ts) (H : RD w s.heap D tl p nd) (hD : D ∈ W) (hh : A.handled = none) (hd : A.depth + 3 < recursionLimit) (hp : p < 2 ^ 29)
    (hx : Txt.split x (ofString " ") = [x]) (hl : x.length < 1000)
    (h : ∀ h' tk, Keep2 [D] s.heap h' → RD w h' D tl (if tokIs ts p "word" x then p + 1 else p) nd → Q (.bool (tokIs ts p "word" x)) { s with heap := h', toks := tk }) : wpAny (MM w) A (call (.ref 539) [.ref r, .str x t']) Q E s := by
  w_top off
  have S1 : St g [D] s.heap := S.less (sub1 hD)
  refine enterN (W := [D]) [("self", .ref r), ("words", .str x t')] G S1 ((fn_at G S (f539 w)).trans rfl) (by kernel_rfl) (by walk_at "dq") (BindsTo.of_eq rfl) (locs rfl) ?_ (by rfl)
  intro L h₁ tk C nL k0
  have H0 := H
  replace H : RD w h₁ D tl p nd := let ⟨a, b, c, d, n, e⟩ := H; ⟨a, b, c, d, n, k0 _ _ e⟩
  repeat walk1
  refine C_is_word G C.st R H hh (by first | walk_at "dr" | (show A.depth + 1 + 2 < _; omega)) hp hx hl fun h2 tk2 k2 => ?_
  have C2 := C.gs k2
  have H2 := H.gs k2
  try dsimp only
  cases b : tokIs ts p "word" x with
  | false =>
    rw [b] at h
    repeat walk1
    try dsimp only
    exact h _ _ (C2.keep nL) H2
  | true =>
    rw [b] at h
    repeat walk1
    refine plainObj_wpAny_Assign_Attribute ?_ (by with_unfolding_all rfl)
    repeat walk1
    walk_at "b len"
    repeat walk1
    refine split_list (by decide) hl fun l xs h3 tk3 e k3 i => ?_
    have C3 := C2.gs k3
    have H3 := H2.gs k3
    rw [hx] at e
    obtain ⟨t2, hxs⟩ : ∃ t2, xs = [(x, t2)] := by
      cases xs with
      | nil => cases e
      | cons a b =>
        obtain ⟨a1, a2⟩ := a
        simp only [List.map_cons, List.cons.injEq, List.map_eq_nil_iff] at e
        obtain ⟨rfl, rfl⟩ := e
        exact ⟨a2, rfl⟩
    subst hxs
    try dsimp only
    walk1
    refine call_len_list i (by show (((1 : Nat) : Int)) < 2 ^ 63; decide) ?_
    try dsimp only
    repeat walk1
    refine set_at (p' := p + 1) G C3 R H3 (by simp) fun h4 C4 H4 k4 => ?_
    try dsimp only
    repeat walk1
    try dsimp only
    exact h _ _ (C4.keep nL) (by rw [if_pos rfl]; exact H4)
theorem C_need {x : PySem.Str} {t' : Tok} {Q : Value → Shared → Prop} (G : Gd w g) (S : St g W s.heap) (R : RS w g r D tl nd toks ts) (H : RD w s.heap D tl p nd) (hD : D ∈ W) (hh : A.handled = none) (hd : A.depth + 4 < recursionLimit) (hp : p < 2 ^ 29)
    (hx : Txt.split x (ofString " ") = [x]) (hl : x.length < 1000) (b : tokIs ts p "word" x = true)
    (h : ∀ h' tk, Keep2 [D] s.heap h' → RD w h' D tl (p + 1) nd → Q .none { s with heap := h', toks := tk }) : wpAny (MM w) A (call (.ref 546) [.ref r, .str x t']) Q E s := by
  w_top off
  have S1 : St g [D] s.heap := S.less (sub1 hD)
  refine enterN (W := [D]) [("self", .ref r), ("words", .str x t')] G S1 ((fn_at G S (f546 w)).trans rfl) (by kernel_rfl) (by walk_at "dq") (BindsTo.of_eq rfl) (locs rfl) ?_ (by rfl)
  intro L h₁ tk C nL k0
  have H0 := H
  replace H : RD w h₁ D tl p nd := let ⟨a, b, c, d, n, e⟩ := H; ⟨a, b, c, d, n, k0 _ _ e⟩
  repeat walk1
  refine C_skip G C.st R H (by simp) hh (by first | walk_at "dr" | (show A.depth + 1 + 3 < _; omega)) hp hx hl fun h2 tk2 k2 H2 => ?_
  have C2 := C.gs k2
  rw [if_pos b] at H2
  try dsimp only
  rw [b]
  repeat walk1
  try dsimp only
  exact h _ _ (C2.keep nL) H2
abbrev wd (x : PySem.Str) : Tx := (ofString "word", x)
abbrev sg (x : PySem.Str) : Tx := (ofString "sign", x)
abbrev nb (x : PySem.Str) : Tx := (ofString "number", x)
theorem RS.lt {w : World} {g : Heap} {r D tl : Addr} {nd : Value} {toks : List Value} {ts : List Tx} (R : RS w g r D tl nd toks ts) {i : Nat} {t : Tx} (e : ts[i]? = some t) : i < 2 ^ 20 := Nat.lt_trans (by obtain ⟨h, _⟩ := List.getElem?_eq_some_iff.mp e; exact h) R.few
theorem RD.up {h h' : Heap} (H : RD w h D tl p nd) (k : ∀ b o, h.get? b = some o → h'.get? b = some o) : RD w h' D tl p nd := by
  obtain ⟨a, b, c, d, n, e⟩ := H
  exact ⟨a, b, c, d, n, k _ _ e⟩
theorem set_at1 {Q : Unit → Shared → Prop} {h0 : Heap} {L : Addr} {m : PySem.Str → Option Value} {t : Tok} (G : Gd w g) (C : Cx g W h0 L m s.heap) (R : RS w g r D tl nd toks ts) (H : RD w s.heap D tl p nd) (hD : D ∈ W)
    (h : ∀ h', Cx g W h0 L m h' → RD w h' D tl (p + 1) nd → Keep2 [D, L] s.heap h' → Q () { s with heap := h', toks := s.toks + 2 }) :
    wpAny (MM w) A (setAttr (.ref r) "at" (.int ((p : Int) + 1) t)) Q E s := set_at (p' := p + 1) G C R H hD h
theorem C_skipF {x : PySem.Str} {t' : Tok} {Q : Value → Shared → Prop} (G : Gd w g) (S : St g W s.heap) (R : RS w g r D tl nd toks ts) (H : RD w s.heap D tl p nd) (hD : D ∈ W) (hh : A.handled = none) (hd : A.depth + 3 < recursionLimit) (hp : p < 2 ^ 29)
    (hx : Txt.split x (ofString " ") = [x]) (hl : x.length < 1000) (b : tokIs ts p "word" x = false)
    (h : ∀ h' tk, Keep2 [D] s.heap h' → RD w h' D tl p nd → Q (.bool false) { s with heap := h', toks := tk }) : wpAny (MM w) A (call (.ref 539) [.ref r, .str x t']) Q E s :=
  C_skip G S R H hD hh hd hp hx hl fun h' tk k H' => by rw [b] at H' ⊢; exact h h' tk k H'
theorem C_skipT {x : PySem.Str} {t' : Tok} {Q : Value → Shared → Prop} (G : Gd w g) (S : St g W s.heap) (R : RS w g r D tl nd toks ts) (H : RD w s.heap D tl p nd) (hD : D ∈ W) (hh : A.handled = none) (hd : A.depth + 3 < recursionLimit) (hp : p < 2 ^ 29)
    (hx : Txt.split x (ofString " ") = [x]) (hl : x.length < 1000) (b : tokIs ts p "word" x = true)
    (h : ∀ h' tk, Keep2 [D] s.heap h' → RD w h' D tl (p + 1) nd → Q (.bool true) { s with heap := h', toks := tk }) : wpAny (MM w) A (call (.ref 539) [.ref r, .str x t']) Q E s :=
  C_skip G S R H hD hh hd hp hx hl fun h' tk k H' => by rw [b] at H' ⊢; exact h h' tk k H'
theorem said4 : True := by
  k_with "m:dp" => first | exact dpb ‹_› (by rfl) | exact dpb0 ‹_› (by rfl) | exact dpm ‹_› (by rfl) | exact dpn ‹_› (by rfl) | exact dpm0 ‹_› (by rfl) | exact dpk ‹_› (by decide) | exact dpk0 ‹_› (by decide) | omega | exact dp1 (by omega) | exact dp0 (by omega) | fail "dp"
  k_with "m:tk" => first
      | assumption
      | exact (tok_of_some ‹_›).trans (by kernel_rfl!)
      | exact (kind_of_some ‹_›).trans (by kernel_rfl!) | fail "tk"
  k_with "m:arg" => first | exact .inl ⟨_, rfl⟩ | exact .inr ⟨rfl, rfl⟩
  k_with "m:carry" => first
      | (intro _ _ _ _ kₘ Hₘ; have qₘ : RD _ _ _ _ _ _ := Hₘ; clear qₘ; have Cₘ := Cx.gs ‹_› kₘ; walk_at "more"; try dsimp only)
      | (intro _ _ _ _ kₘ; have Cₘ := Cx.gs ‹_› kₘ; have Hₘ := RD.gs ‹_› kₘ (by walk_at "sm"); walk_at "more"; try dsimp only)
      | (intro _ _ kₘ Hₘ; have qₘ : RD _ _ _ _ _ _ := Hₘ; clear qₘ; have Cₘ := Cx.gs ‹_› kₘ; walk_at "more"; try dsimp only)
      | (intro _ _ kₘ; have Cₘ := Cx.gs ‹_› kₘ; have Hₘ := RD.gs ‹_› kₘ (by walk_at "sm"); walk_at "more"; try dsimp only)
  k_with "m:call ref" => (walk_plain_pass; (first
      | (with_reducible show wpAny _ _ (call (Value.ref 496) _) _ _ _); refine C_peekT (by walk_at "arg") ‹_› (Cx.st ‹_›) ‹_› ‹_› (by walk_at "dp") (by walk_at "om") (by walk_at "om") ‹_› ?_
      | (with_reducible show wpAny _ _ (call (Value.ref 525) _) _ _ _); refine C_is_kindA (b := true) (by walk_at "arg") ‹_› (Cx.st ‹_›) ‹_› ‹_› (by walk_at "dp") (by walk_at "om") (by walk_at "om") (by walk_at "tk") ?_
      | (with_reducible show wpAny _ _ (call (Value.ref 525) _) _ _ _); refine C_is_kindA (b := false) (by walk_at "arg") ‹_› (Cx.st ‹_›) ‹_› ‹_› (by walk_at "dp") (by walk_at "om") (by walk_at "om") (by walk_at "tk") ?_
      | (with_reducible show wpAny _ _ (call (Value.ref 590) _) _ _ _); refine C_is_signA (b := true) (by walk_at "arg") ‹_› (Cx.st ‹_›) ‹_› ‹_› (by walk_at "dp") (by walk_at "om") (by walk_at "om") (by walk_at "tk") ?_
      | (with_reducible show wpAny _ _ (call (Value.ref 590) _) _ _ _); refine C_is_signA (b := false) (by walk_at "arg") ‹_› (Cx.st ‹_›) ‹_› ‹_› (by walk_at "dp") (by walk_at "om") (by walk_at "om") (by walk_at "tk") ?_
      | (with_reducible show wpAny _ _ (call (Value.ref 539) _) _ _ _); refine C_skipF ‹_› (Cx.st ‹_›) ‹_› ‹_› (by walk_at "sm") ‹_› (by walk_at "dp") (by walk_at "om") (by first | assumption | kernel_rfl!) (by first | assumption | decide) (by walk_at "tk") ?_
      | (with_reducible show wpAny _ _ (call (Value.ref 539) _) _ _ _); refine C_skipT ‹_› (Cx.st ‹_›) ‹_› ‹_› (by walk_at "sm") ‹_› (by walk_at "dp") (by walk_at "om") (by first | assumption | kernel_rfl!) (by first | assumption | decide) (by walk_at "tk") ?_
      | (with_reducible show wpAny _ _ (call (Value.ref 546) _) _ _ _); refine C_need ‹_› (Cx.st ‹_›) ‹_› ‹_› (by walk_at "sm") ‹_› (by walk_at "dp") (by walk_at "om") (by first | assumption | kernel_rfl!) (by first | assumption | decide) (by walk_at "tk") ?_)
      <;> walk_at "carry")
  k_with "m:exec Assign" => ((with_reducible show wpAny _ _ (exec (Stmt.Assign [PySem.Expr.Attribute _ _ _] _ _) _) _ _ _); refine plainObj_wpAny_Assign_Attribute ?_ (by with_unfolding_all rfl))
  k_with "m:setAttr ref" => (walk_plain_pass; (refine set_at1 ‹_› ‹_› ‹_› ‹_› (by simp) ?_; intro hₘ Cₘ Hₘ kₘ; walk_at "more"; try dsimp only))
  k_with "m:gl" => with_reducible first
      | exact gl_GrammarFault _ | exact gl_FIGURES _ | exact gl_decimal _ | exact gl_negated _ | exact gl_worth_of _ | exact gl_read_decimal _
      | exact gl_FIGURE_NAMES _ | exact gl_is_part_next _ | exact gl_read_ref _ | exact gl_read_figure _ | exact gl_read_operand _ | exact gl_MOST_DEEP_expressions _
      | exact gl_read_expression _ | exact gl_sign_among _ | exact gl_read_sum _ | exact gl_read_product _ | exact gl_read_factor _ | exact gl_is_lone_number _
      | exact gl_read_power _ | exact gl_read_primary _ | exact gl_MOST_DEEP_conditions _ | exact gl_OPPOSITES _ | exact gl_CLASSES _ | exact gl_WORDS_OF_SIGNS _
      | exact gl_WORDS_OF_RELATIONS _ | exact gl_RELATIONS _ | exact gl_word_here _ | exact gl_is_relation_at _ | exact gl_place_of_word _ | exact gl_is_predicate_here _
      | exact gl_is_bare_relation_here _ | exact gl_ConditionReader _ | exact gl_read_condition _ | exact gl_word_ahead _ | exact gl_phrase_words _ | exact gl_opening_length _
      | exact gl_body_here _ | exact gl_branches_here _ | exact gl_ref_here _ | exact gl_refuse_at _ | exact gl_is_key_condition _ | exact gl_table_here _
      | exact gl_read_search_all _ | exact gl_read_search _ | exact gl_RESERVED _ | exact gl_is_reserved _ | exact gl_Reader _ | exact gl_Token _
      | exact gl_law_pen _ | exact gl_law_draw _ | exact gl_law_pick _ | exact gl_law_words _ | exact gl_law_reader _ | exact gl_law_item _
      | exact gl_law_leaf _ | exact gl_law_cond _ | exact gl_law_bracket _ | exact gl_law_right _ | exact gl_law_both _
  k_with "m:bv" => with_reducible first
      | exact PyProof.Rows.Boot.len | exact PyProof.Rows.Boot.int | exact PyProof.Rows.Boot.str | exact PyProof.Rows.Boot.list | exact PyProof.Rows.Boot.tuple | exact PyProof.Rows.Boot.range | exact PyProof.Rows.Boot.sum | exact PyProof.Rows.Boot.abs | exact PyProof.Rows.Boot.enumerate | exact PyProof.Rows.Boot.min | exact PyProof.Rows.Boot.Exception
  k_with "m:eval Name" => (walk_plain_pass; first
      | refine n_G ‹_› ‹_› (by walk_at "gl") ?_ (by kernel_rfl!)
      | refine n_B ‹_› ‹_› (by walk_at "bv") ?_ (by kernel_rfl!) (by kernel_rfl!))
  trivial
theorem C_take {t : Tx} {Q : Value → Shared → Prop} (G : Gd w g) (S : St g W s.heap) (R : RS w g r D tl nd toks ts) (H : RD w s.heap D tl p nd) (hD : D ∈ W) (hd : A.depth + 1 < recursionLimit) (hp : p < 2 ^ 29) (ht : ts[p]? = some t)
    (h : ∀ a, TokAt w g (.ref a) p t → ∀ h' tk, Keep2 [D] s.heap h' → RD w h' D tl (p + 1) nd → Q (.ref a) { s with heap := h', toks := tk }) : wpAny (MM w) A (call (.ref 517) [.ref r]) Q E s := by
  w_top off
  have S1 : St g [D] s.heap := S.less (sub1 hD)
  refine enterN (W := [D]) [("self", .ref r)] G S1 ((fn_at G S (f517 w)).trans rfl) (by kernel_rfl) (by walk_at "dq") (BindsTo.of_eq rfl) (locs rfl) ?_ (by rfl)
  intro L h₁ tk C nL k0
  have H0 := H
  replace H := H.up k0
  repeat walk1
  try dsimp only
  exact h _ (by assumption) _ _ (Cx.keep (by assumption) nL) (by assumption)
theorem said5 : True := by
  k_with "m:call ref" => (walk_plain_pass; ((with_reducible show wpAny _ _ (call (Value.ref 517) _) _ _ _); refine C_take ‹_› (Cx.st ‹_›) ‹_› ‹_› (by walk_at "sm") (by walk_at "dp") (by walk_at "om") ‹_› ?_; walk_at "carry"))
  trivial
theorem C_skip_signF {x : PySem.Str} {t' : Tok} {Q : Value → Shared → Prop} (G : Gd w g) (S : St g W s.heap) (R : RS w g r D tl nd toks ts) (H : RD w s.heap D tl p nd) (hD : D ∈ W) (hd : A.depth + 3 < recursionLimit) (hp : p < 2 ^ 29)
    (b : tokIs ts p "sign" x = false)
    (h : ∀ h' tk, Keep2 [D] s.heap h' → RD w h' D tl p nd → Q (.bool false) { s with heap := h', toks := tk }) : wpAny (MM w) A (call (.ref 597) [.ref r, .str x t']) Q E s := by
  w_top off
  have S1 : St g [D] s.heap := S.less (sub1 hD)
  refine enterN (W := [D]) [("self", .ref r), ("sign", .str x t')] G S1 ((fn_at G S (f597 w)).trans rfl) (by kernel_rfl) (by walk_at "dq") (BindsTo.of_eq rfl) (locs rfl) ?_ (by rfl)
  intro L h₁ tk C nL k0
  replace H := H.up k0
  repeat walk1
  try dsimp only
  exact h _ _ (Cx.keep (by assumption) nL) (by assumption)
theorem C_skip_signT {x : PySem.Str} {t' : Tok} {Q : Value → Shared → Prop} (G : Gd w g) (S : St g W s.heap) (R : RS w g r D tl nd toks ts) (H : RD w s.heap D tl p nd) (hD : D ∈ W) (hd : A.depth + 3 < recursionLimit) (hp : p < 2 ^ 29)
    (b : tokIs ts p "sign" x = true)
    (h : ∀ h' tk, Keep2 [D] s.heap h' → RD w h' D tl (p + 1) nd → Q (.bool true) { s with heap := h', toks := tk }) : wpAny (MM w) A (call (.ref 597) [.ref r, .str x t']) Q E s := by
  w_top off
  have S1 : St g [D] s.heap := S.less (sub1 hD)
  refine enterN (W := [D]) [("self", .ref r), ("sign", .str x t')] G S1 ((fn_at G S (f597 w)).trans rfl) (by kernel_rfl) (by walk_at "dq") (BindsTo.of_eq rfl) (locs rfl) ?_ (by rfl)
  intro L h₁ tk C nL k0
  replace H := H.up k0
  repeat walk1
  try dsimp only
  exact h _ _ (Cx.keep (by assumption) nL) (by assumption)
theorem said6 : True := by
  k_with "m:call ref" => (walk_plain_pass; (first
      | (with_reducible show wpAny _ _ (call (Value.ref 597) _) _ _ _); refine C_skip_signF ‹_› (Cx.st ‹_›) ‹_› ‹_› (by walk_at "sm") (by walk_at "dp") (by walk_at "om") (by walk_at "tk") ?_
      | (with_reducible show wpAny _ _ (call (Value.ref 597) _) _ _ _); refine C_skip_signT ‹_› (Cx.st ‹_›) ‹_› ‹_› (by walk_at "sm") (by walk_at "dp") (by walk_at "om") (by walk_at "tk") ?_)
      <;> walk_at "carry")
  trivial
theorem C_need_sign {x : PySem.Str} {t' : Tok} {Q : Value → Shared → Prop} (G : Gd w g) (S : St g W s.heap) (R : RS w g r D tl nd toks ts) (H : RD w s.heap D tl p nd) (hD : D ∈ W) (hd : A.depth + 4 < recursionLimit) (hp : p < 2 ^ 29)
    (b : tokIs ts p "sign" x = true)
    (h : ∀ h' tk, Keep2 [D] s.heap h' → RD w h' D tl (p + 1) nd → Q .none { s with heap := h', toks := tk }) : wpAny (MM w) A (call (.ref 604) [.ref r, .str x t']) Q E s := by
  w_top off
  have S1 : St g [D] s.heap := S.less (sub1 hD)
  refine enterN (W := [D]) [("self", .ref r), ("sign", .str x t')] G S1 ((fn_at G S (f604 w)).trans rfl) (by kernel_rfl) (by walk_at "dq") (BindsTo.of_eq rfl) (locs rfl) ?_ (by rfl)
  intro L h₁ tk C nL k0
  replace H := H.up k0
  repeat walk1
  try dsimp only
  exact h _ _ (Cx.keep (by assumption) nL) (by assumption)
theorem said7 : True := by
  k_with "m:call ref" => (walk_plain_pass; ((with_reducible show wpAny _ _ (call (Value.ref 604) _) _ _ _); refine C_need_sign ‹_› (Cx.st ‹_›) ‹_› ‹_› (by walk_at "sm") (by walk_at "dp") (by walk_at "om") (by walk_at "tk") ?_; walk_at "carry"))
  trivial
def isNm (x : PySem.Str) : Prop := x = "K" ∨ x = "M" ∨ x = "N" ∨ x = "T" ∨ x = "DONE"
theorem nm_no {x y k : PySem.Str} (hx : isNm x) (hy : ([ofString "K", ofString "M", ofString "N", ofString "T", ofString "DONE"].all fun z => !(z == y)) = true) : (k == ofString "word" && x == y) = false := by
  simp only [List.all_cons, List.all_nil, Bool.and_true, Bool.and_eq_true, Bool.not_eq_true'] at hy
  obtain ⟨h1, h2, h3, h4, h5⟩ := hy
  rcases hx with rfl | rfl | rfl | rfl | rfl
  · rw [h1, Bool.and_false]
  · rw [h2, Bool.and_false]
  · rw [h3, Bool.and_false]
  · rw [h4, Bool.and_false]
  · rw [h5, Bool.and_false]
def preB : List Nat → List Nat → Bool
  | [], _ => true
  | _ :: _, [] => false
  | a :: r, b :: t => match Nat.beq a b with
    | true => preB r t
    | false => false
def infB (y : List Nat) : List Nat → Bool
  | [] => preB y []
  | b :: t => match preB y (b :: t) with
    | true => true
    | false => infB y t
theorem preB_of : ∀ (y x : List Nat), x.take y.length = y → preB y x = true
  | [], _, _ => by unfold preB; rfl
  | a :: r, [], h => by simp at h
  | a :: r, b :: t, h => by
    simp only [List.length_cons, List.take_succ_cons, List.cons.injEq] at h
    unfold preB
    rw [h.1, Nat.beq_refl]
    exact preB_of r t h.2
theorem infB_of (y : List Nat) : ∀ (x : List Nat) (i : Nat), (x.drop i).take y.length = y → infB y x = true
  | [], i, h => by
    unfold infB
    refine preB_of y [] ?_
    simpa using h
  | b :: t, 0, h => by
    unfold infB
    rw [preB_of y (b :: t) (by simpa using h)]
  | b :: t, i + 1, h => by
    unfold infB
    cases preB y (b :: t) with
    | true => rfl
    | false => exact infB_of y t i (by simpa using h)
theorem not_in {x y : PySem.Str} (h : infB y.cps.toList x.cps.toList = false) : (!(Builtin.Str.occurrences x y 0 x.length 1).isEmpty) = false := by
  rw [Bool.eq_false_iff]
  intro q
  obtain ⟨i, h1, h2⟩ := (StrLaws.found_iff x y).mp q
  unfold Builtin.Str.subAt at h2
  have e := congrArg Array.toList (eq_of_beq h2)
  rw [Array.toList_extract] at e
  rw [infB_of _ _ i (by
    have n : y.length = y.cps.toList.length := by simp [PySem.Str.length]
    rw [List.extract_eq_take_drop] at e
    rw [show i + y.length - i = y.cps.toList.length by omega] at e
    exact e)] at h
  cases h
theorem inf_lit (ys : List (List Nat)) (x : PySem.Str) (s : String) (e : x = PySem.Str.ofString s) (h : (ys.all fun l => !(infB l (PySem.Str.ofString s).cps.toList)) = true) : ∀ l ∈ ys, infB l x.cps.toList = false := by
  subst e
  intro l hl
  simpa using List.all_eq_true.mp h l hl
theorem noRes_all : ∀ l ∈ [[32, 75, 32], [32, 77, 32], [32, 78, 32], [32, 84, 32], [32, 68, 79, 78, 69, 32]], infB l resv.cps.toList = false := inf_lit _ _ _ (by rfl) (by k_qdec)
theorem noRes {x : PySem.Str} (hx : isNm x) : (!(Builtin.Str.occurrences resv (ofString " " ++ x ++ ofString " ") 0 resv.length 1).isEmpty) = false := by
  refine not_in ?_
  rcases hx with rfl | rfl | rfl | rfl | rfl
  · rw [show (ofString " " ++ ("K" : PySem.Str) ++ ofString " ").cps.toList = [32, 75, 32] by decide]; exact noRes_all _ (by simp)
  · rw [show (ofString " " ++ ("M" : PySem.Str) ++ ofString " ").cps.toList = [32, 77, 32] by decide]; exact noRes_all _ (by simp)
  · rw [show (ofString " " ++ ("N" : PySem.Str) ++ ofString " ").cps.toList = [32, 78, 32] by decide]; exact noRes_all _ (by simp)
  · rw [show (ofString " " ++ ("T" : PySem.Str) ++ ofString " ").cps.toList = [32, 84, 32] by decide]; exact noRes_all _ (by simp)
  · rw [show (ofString " " ++ ("DONE" : PySem.Str) ++ ofString " ").cps.toList = [32, 68, 79, 78, 69, 32] by decide]; exact noRes_all _ (by simp)
theorem C_is_reserved {x : PySem.Str} {t : Tok} {Q : Value → Shared → Prop} (G : Gd w g) (S : St g W s.heap) (hd : A.depth + 0 < recursionLimit) (hx : isNm x)
    (h : ∀ h' tk, Keep2 [] s.heap h' → Q (.bool false) { s with heap := h', toks := tk }) : wpAny (MM w) A (call (.ref 468) [.str x t]) Q E s := by
  w_top off
  have S1 : St g [] s.heap := S.none
  refine enterN (W := []) [("word", .str x t)] G S1 ((fn_at G S (f468 w)).trans rfl) (by kernel_rfl) (by walk_at "dq") (BindsTo.of_eq rfl) (locs rfl) ?_ (by rfl)
  intro L h₁ tk C nL k0
  rcases hx with rfl | rfl | rfl | rfl | rfl
  all_goals (
    repeat walk1
    try dsimp only
    rw [noRes (by first | exact .inl rfl | exact .inr (.inl rfl) | exact .inr (.inr (.inl rfl)) | exact .inr (.inr (.inr (.inl rfl))) | exact .inr (.inr (.inr (.inr rfl))))]
    exact h _ _ (Cx.keep (by assumption) nL))
theorem said8 : True := by
  k_with "m:tk" => first | exact (tok_of_some ‹_›).trans (nm_no ‹_› (by kernel_rfl!)) | fail "tk"
  k_with "m:call ref" => (walk_plain_pass; ((with_reducible show wpAny _ _ (call (Value.ref 468) _) _ _ _); refine C_is_reserved ‹_› (Cx.st ‹_›) (by walk_at "dp") ‹_› ?_; walk_at "carry"))
  trivial
theorem C_is_name {k : Nat} {x : PySem.Str} {args : List Value} {Q : Value → Shared → Prop} (G : Gd w g) (S : St g W s.heap) (R : RS w g r D tl nd toks ts) (H : RD w s.heap D tl p nd) (hd : A.depth + 2 < recursionLimit) (hp : p < 2 ^ 29) (ha : (∃ t, args = [.ref r, .int k t]) ∨ (args = [.ref r] ∧ k = 0)) (hk : k < 2 ^ 29) (ht : ts[p + k]? = some (wd x)) (hx : isNm x)
    (h : ∀ h' tk, Keep2 [] s.heap h' → Q (.bool true) { s with heap := h', toks := tk }) : wpAny (MM w) A (call (.ref 568) args) Q E s := by
  w_top off
  have S1 : St g [] s.heap := S.none
  refine wpAny_call ?_
  obtain ⟨t, hB⟩ : ∃ t, BindsTo s (fdOf (o568 w.params)) ⟨args, []⟩ [("self", .ref r), ("ahead", .int k t)] := by
    rcases ha with ⟨t, rfl⟩ | ⟨rfl, rfl⟩
    · exact ⟨t, BindsTo.of_defaults (T := 561) rfl (fn_at G S (f561 w)) rfl rfl rfl⟩
    · exact ⟨_, BindsTo.of_defaults (T := 561) rfl (fn_at G S (f561 w)) rfl rfl rfl⟩
  refine enter2 (W := []) [("self", .ref r), ("ahead", .int k t)] G S1 ((fn_at G S (f568 w)).trans rfl) (by kernel_rfl) (by walk_at "dq") hB (locs rfl) ?_ (by decide)
  intro L h₁ tk C nL k0
  refine noE ?_
  have dL : D ≠ L := ne_of_live H.live nL
  replace H := H.up k0
  have hq := R.lt ht
  have kd : kindIs ts (p + k) "word" = true := kind_of_some ht
  repeat walk1
  try dsimp only
  try dsimp only
  exact h _ _ (Cx.keep (by assumption) nL)
theorem said9 : True := by
  k_with "m:call ref" => (walk_plain_pass; ((with_reducible show wpAny _ _ (call (Value.ref 568) _) _ _ _); refine C_is_name ‹_› (Cx.st ‹_›) ‹_› ‹_› (by walk_at "dp") (by walk_at "om") (by walk_at "arg") (by walk_at "om") ‹_› ‹_› ?_; walk_at "carry"))
  trivial
theorem C_name {x : PySem.Str} {Q : Value → Shared → Prop} (G : Gd w g) (S : St g W s.heap) (R : RS w g r D tl nd toks ts) (H : RD w s.heap D tl p nd) (hD : D ∈ W) (hd : A.depth + 3 < recursionLimit) (hp : p < 2 ^ 29) (ht : ts[p]? = some (wd x)) (hx : isNm x)
    (h : ∀ t h' tk, Keep2 [D] s.heap h' → RD w h' D tl (p + 1) nd → Q (.str x t) { s with heap := h', toks := tk }) : wpAny (MM w) A (call (.ref 575) [.ref r]) Q E s := by
  w_top off
  have S1 : St g [D] s.heap := S.less (sub1 hD)
  refine enterN (W := [D]) [("self", .ref r)] G S1 ((fn_at G S (f575 w)).trans rfl) (by kernel_rfl) (by walk_at "dq") (BindsTo.of_eq rfl) (locs rfl) ?_ (by rfl)
  intro L h₁ tk C nL k0
  have dL : D ≠ L := ne_of_live H.live nL
  replace H := H.up k0
  have hq := R.lt ht
  repeat walk1
  try dsimp only
  exact h _ _ _ (Cx.keep (by assumption) nL) (by assumption)
theorem said10 : True := by
  k_with "m:carry1" => (intro _ _ _ kₘ Hₘ; have Cₘ := Cx.gs ‹_› kₘ; walk_at "more"; try dsimp only)
  k_with "m:call ref" => (walk_plain_pass; ((with_reducible show wpAny _ _ (call (Value.ref 575) _) _ _ _); refine C_name ‹_› (Cx.st ‹_›) ‹_› ‹_› (by walk_at "sm") (by walk_at "dp") (by walk_at "om") ‹_› ‹_› ?_; walk_at "carry1"))
  trivial
theorem C_is_number {b : Bool} {Q : Value → Shared → Prop} (G : Gd w g) (S : St g W s.heap) (R : RS w g r D tl nd toks ts) (H : RD w s.heap D tl p nd) (hd : A.depth + 3 < recursionLimit) (hp : p < 2 ^ 29) (n1 : tokIs ts p "sign" "+" = false) (n2 : tokIs ts p "sign" "-" = false) (hb : kindIs ts p "number" = b)
    (h : ∀ h' tk, Keep2 [] s.heap h' → Q (.bool b) { s with heap := h', toks := tk }) : wpAny (MM w) A (call (.ref 611) [.ref r]) Q E s := by
  w_top off
  have S1 : St g [] s.heap := S.none
  refine enterN (W := []) [("self", .ref r)] G S1 ((fn_at G S (f611 w)).trans rfl) (by kernel_rfl) (by walk_at "dq") (BindsTo.of_eq rfl) (locs rfl) ?_ (by rfl)
  intro L h₁ tk C nL k0
  have dL : D ≠ L := ne_of_live H.live nL
  replace H := H.up k0
  subst hb
  cases hb : kindIs ts p "number" with
  | false =>
    rw [hb] at h
    repeat walk1
    try dsimp only
    exact h _ _ (Cx.keep (by assumption) nL)
  | true =>
    rw [hb] at h
    repeat walk1
    try dsimp only
    exact h _ _ (Cx.keep (by assumption) nL)
theorem said11 : True := by
  k_with "m:call ref" => (walk_plain_pass; (first
      | (with_reducible show wpAny _ _ (call (Value.ref 611) _) _ _ _); refine C_is_number (b := true) ‹_› (Cx.st ‹_›) ‹_› ‹_› (by walk_at "dp") (by walk_at "om") (by walk_at "tk") (by walk_at "tk") (by walk_at "tk") ?_
      | (with_reducible show wpAny _ _ (call (Value.ref 611) _) _ _ _); refine C_is_number (b := false) ‹_› (Cx.st ‹_›) ‹_› ‹_› (by walk_at "dp") (by walk_at "om") (by walk_at "tk") (by walk_at "tk") (by walk_at "tk") ?_)
      <;> walk_at "carry")
  trivial
theorem list_not_D {h : Heap} {l : Addr} {xs : Array Value} (i : h.IsList l xs) (H : RD w h D tl p nd) : l ∉ [D] := fun q => by
  obtain ⟨o, e, _, n, d⟩ := i
  obtain ⟨_, _, _, _, _, e2⟩ := H
  rw [List.mem_singleton.mp q, e2] at e
  cases e
  cases d
theorem C_one_of {t' : Tok} {Q : Value → Shared → Prop} (G : Gd w g) (S : St g W s.heap) (R : RS w g r D tl nd toks ts) (H : RD w s.heap D tl p nd) (hD : D ∈ W) (hh : A.handled = none) (hd : A.depth + 4 < recursionLimit) (hp : p < 2 ^ 29) (n1 : tokIs ts p "word" "OF" = false) (n2 : tokIs ts p "word" "IN" = false)
    (h : ∀ t h' tk, Keep2 [D] s.heap h' → RD w h' D tl p nd → Q (.str "" t) { s with heap := h', toks := tk }) : wpAny (MM w) A (call (.ref 553) [.ref r, .str "OF IN" t']) Q E s := by
  w_top off
  have S1 : St g [D] s.heap := S.less (sub1 hD)
  refine enterN (W := [D]) [("self", .ref r), ("words", .str "OF IN" t')] G S1 ((fn_at G S (f553 w)).trans rfl) (by kernel_rfl) (by walk_at "dq") (BindsTo.of_eq rfl) (locs rfl) ?_ (by rfl)
  intro L h₁ tk C nL k0
  have dL : D ≠ L := ne_of_live H.live nL
  replace H := H.up k0
  repeat walk1
  refine wpAny_For ?_
  repeat walk1
  refine split_list (by decide) (by decide) fun l xs h2 tk2 e k i => ?_
  have C1 := C.gs k
  have H1 := H.gs k
  rw [show Txt.split (ofString "OF IN") (ofString " ") = [ofString "OF", ofString "IN"] by kernel_rfl] at e
  obtain ⟨u1, u2, hxs⟩ : ∃ u1 u2, xs = [(ofString "OF", u1), (ofString "IN", u2)] := by
    rcases xs with _ | ⟨⟨a1, a2⟩, _ | ⟨⟨b1, b2⟩, _ | _⟩⟩
    · cases e
    · cases e
    · simp only [List.map_cons, List.map_nil, List.cons.injEq, and_true] at e
      obtain ⟨rfl, rfl⟩ := e
      exact ⟨_, _, rfl⟩
    · cases e
  subst hxs
  refine for_list C1 i (list_not_D i H1) (by exact hh) (by kernel_rfl) (by kernel_rfl) fun I h3 nI C2 k2 => ?_
  have H2 := H1.gs k2
  have dI : D ≠ I := ne_of_live H1.live nI
  intro h4 tk4 C3 k3 k4
  have st : ∀ {h4 h3 : Heap}, RD w h3 D tl p nd → Keep2 [L, I] h3 h4 → RD w h4 D tl p nd := fun a b => a.go b (by
    intro q
    rcases List.mem_cons.mp q with q | q
    · exact dL q
    · exact dI (List.mem_singleton.mp q))
  have H3 := st H2 k3
  repeat walk1
  refine ⟨⟨_, _, _, rfl, by assumption, ?_⟩⟩
  clear C3 k3 C2 k2 C1 k C
  intro h5 tk5 C5 k5 k6
  have H5 := st (by assumption) k5
  repeat walk1
  refine ⟨⟨_, _, _, rfl, by assumption, ?_⟩⟩
  intro h7 tk7 C7 k7
  have H7 : RD w h7 D tl p nd := by
    obtain ⟨a1, a2, a3, a4, a5, e⟩ := (by assumption : RD w _ D tl p nd)
    exact ⟨a1, a2, a3, a4, a5, k7 _ _ e dI⟩
  repeat walk1
  try dsimp only
  exact h _ _ _ (C7.keep nL) H7
theorem said12 : True := by
  k_with "m:call ref" => (walk_plain_pass; ((with_reducible show wpAny _ _ (call (Value.ref 553) _) _ _ _); refine C_one_of ‹_› (Cx.st ‹_›) ‹_› ‹_› (by walk_at "sm") ‹_› (by walk_at "dp") (by walk_at "om") (by walk_at "tk") (by walk_at "tk") ?_; walk_at "carry1"))
  trivial
section
variable {w : World} {A : Around} {E : Value → Shared → Prop} {s : Shared} {g : Heap} {W : List Addr} {h0 h h' : Heap} {L I : Addr} {m : PySem.Str → Option Value}
theorem Cx.overs {F : List Addr} (C : Cx g W h0 L m h) (k : ∀ b o, h.get? b = some o → b ∉ F → h'.get? b = some o) (n0 : ∀ a ∈ F, h0.get? a = none) (nL : L ∉ F) (ng : ∀ a ∈ F, g.get? a = none) (nW : ∀ a ∈ F, a ∉ W) : Cx g W h0 L m h' := by
  have z0 : ∀ b o, h0.get? b = some o → b ∉ F := fun b o e q => by rw [n0 b q] at e; cases e
  refine ⟨?_, ⟨fun b o e => k b o (C.st.sub b o e) fun q => (by rw [ng b q] at e; cases e), C.st.off, fun a q => let ⟨o, e⟩ := C.st.live a q; ⟨o, k a o e fun z => nW a z q⟩⟩, C.nL, C.gL,
    ⟨fun b o e n => k b o (C.k.keep b o e n) (z0 b o e), fun b o e => let ⟨o', e'⟩ := C.k.live b o e; ⟨o', k b o' e' (z0 b o e)⟩, fun b o n e => k b _ (C.k.stab b o n e) (z0 b o e)⟩⟩
  obtain ⟨oL, es, ep, hL, r⟩ := C.ns
  exact ⟨oL, es, ep, k L oL hL nL, r⟩
def TurnsW (w : World) (A : Around) (E : Value → Shared → Prop) (g : Heap) (W : List Addr) (env : Env) (x : PySem.Str) (body : List Stmt) (Q : Flow → Shared → Prop) (s : Shared) (h0 : Heap) (wr : List Addr) (P : Nat → Value → Prop) : Nat → Nat → (PySem.Str → Option Value) → Heap → Prop
  | 0, _, m, h => ∀ h' tk, Cx g W h0 env.locals m h' → (∀ b o, h.get? b = some o → b ∉ wr → h'.get? b = some o) → Q .next { s with heap := h', toks := tk }
  | k + 1, i, m, h => ∀ v h' tk, P i v → Cx g W h' env.locals (fun y => if y = x then some v else m y) h' → Keep2 (env.locals :: wr) h h' → Keep2 (env.locals :: W) h0 h' →
      wpAny (MM w) A (execs body env) (fun f s₃ => match f with
        | .next | .cont => Wrap (∃ h'' tk' m', s₃ = { s with heap := h'', toks := tk' } ∧ Cx g W h' env.locals m' h'' ∧ TurnsW w A E g W env x body Q s h0 wr P k (i + 1) m' h'')
        | .brk => Q .next s₃
        | .ret v => Q (.ret v) s₃) (notedBy (MM w) A env fun e s' => cameBackBy (MM w) A env E e s') { s with heap := h', toks := tk }
theorem for_walk {h1 : Heap} {tk1 : Tok} {env : Env} {x : PySem.Str} {px : Pos} {body : List Stmt} {fp wr : List Addr} {n : Nat} {P : Nat → Value → Prop} {Sx : Nat → Heap → Prop} {Q : Flow → Shared → Prop}
    (Wk : Walks PP w A I fp wr n P Sx) (ns : ∀ i h, Sx i h → ∀ a ∈ wr, ∃ o, h.get? a = some o ∧ ¬ Stab o) (C : Cx g W h0 env.locals m h1) (st0 : Sx 0 h1) (n0 : ∀ a ∈ wr, h0.get? a = none) (ng : ∀ a ∈ wr, g.get? a = none)
    (fL : env.locals ∉ fp) (fW : ∀ a ∈ fp, a ∉ W) (hk : env.scope.kind = .function) (hx : env.kindOf x = some .local)
    (h : TurnsW w A E g W env x body Q s h0 wr P n 0 m h1) :
    codeAny (MM w) A (.forLoop (.Name x px) (.ref I) body [] env) (fun r s' => match r with | .ok f => Q f s' | .error e => cameBackBy (MM w) A env E e s') { s with heap := h1, toks := tk1 } := by
  have nW : ∀ a ∈ wr, a ∉ W := fun a q => fW a (Wk.sub a q)
  have nL : env.locals ∉ wr := fun q => fL (Wk.sub _ q)
  refine codeAny_forLoop (fun k s' => ∃ i m' h' tk', k + i = n ∧ s' = { s with heap := h', toks := tk' } ∧ Cx g W h0 env.locals m' h' ∧ Sx i h' ∧
    TurnsW w A E g W env x body Q s h0 wr P k i m' h') ?_ n ⟨0, m, _, _, rfl, rfl, C, st0, h⟩
  intro k s' hI
  refine bc fun hGo => ?_
  obtain ⟨i, m', h', tk', hi, rfl, C', sx, T'⟩ := hI
  refine hGo ?_; clear hGo
  cases k with
  | succ k =>
    refine Wk.item i _ _ _ (by omega) sx fun v h2 tk2 hP sx2 kb => ?_
    have kI : Keep2 wr h' h2 := ⟨fun b o e q => kb b o q e, fun b o e => by
        by_cases q : b ∈ wr
        · obtain ⟨o', e', _⟩ := ns _ _ sx2 b q; exact ⟨o', e'⟩
        · exact ⟨o, kb b o q e⟩, fun b o z e => by
        by_cases q : b ∈ wr
        · obtain ⟨o', e', nz⟩ := ns _ _ sx b q
          rw [e] at e'; cases e'; exact absurd z nz
        · exact kb b o q e⟩
    have C2 : Cx g W h0 env.locals m' h2 := C'.overs (fun b o e q => kb b o q e) n0 nL ng nW
    refine wpAny_assign_Name (store (s := { s with heap := h2, toks := tk2 }) C2 (fun h3 C3 k3 => ?_) hk hx)
    have k23 : Keep2 (env.locals :: wr) h' h3 := (kI.more fun x q => .tail _ q).trans (k3.more (by simp))
    refine wpAny_mono (T' v h3 _ hP C3.root k23 C3.k) (fun f s₃ hf => ?_) (fun _ _ y => y)
    have fin : (∃ h'' tk' m', s₃ = { s with heap := h'', toks := tk' } ∧ Cx g W h3 env.locals m' h'' ∧ TurnsW w A E g W env x body Q s h0 wr P k (i + 1) m' h'') → ∃ m_1, m_1 < k + 1 ∧ ∃ i m' h' tk', m_1 + i = n ∧ s₃ = { s with heap := h', toks := tk' } ∧ Cx g W h0 env.locals m' h' ∧ Sx i h' ∧
        TurnsW w A E g W env x body Q s h0 wr P m_1 i m' h' := by
      rintro ⟨h4, tk4, m4, rfl, C4, T4⟩
      refine ⟨k, by omega, i + 1, m4, h4, tk4, by omega, rfl, C4.back C3.k, ?_, T4⟩
      refine Wk.frame _ _ _ (Wk.frame _ _ _ sx2 fun b q o e => k3.keep b o e fun z => fL (List.mem_singleton.mp z ▸ q)) fun b q o e => C4.k.keep b o e fun z => ?_
      rcases List.mem_cons.mp z with z | z
      · exact fL (z ▸ q)
      · exact fW b q z
    cases f with
    | next => exact fin hf.out
    | cont => exact fin hf.out
    | brk => exact hf
    | ret v => exact hf
  | zero =>
    have e : i = n := by omega
    subst e
    refine Wk.done _ _ _ sx fun h2 tk2 kb => ?_
    exact wpAny_execs_nil (T' h2 tk2 (C'.overs (fun b o e q => kb b o q e) n0 nL ng nW) fun b o e q => kb b o q e)
theorem Cx.none_of {h0 : Heap} (C : Cx g W h0 L m h) {a : Addr} (n : h.get? a = none) : h0.get? a = none ∧ g.get? a = none ∧ a ∉ W ∧ a ≠ L := by
  refine ⟨?_, ?_, fun q => ?_, fun q => ?_⟩
  · cases q : h0.get? a with
    | none => rfl
    | some o => obtain ⟨o', e⟩ := C.k.live a o q; rw [n] at e; cases e
  · cases q : g.get? a with
    | none => rfl
    | some o => have e := C.st.sub a o q; rw [n] at e; cases e
  · obtain ⟨o, e⟩ := C.st.live a q; rw [n] at e; cases e
  · obtain ⟨o, _, _, e, _⟩ := C.ns; rw [q, e] at n; cases n
theorem for_tuple {env : Env} {x : PySem.Str} {px : Pos} {body : List Stmt} {l : Addr} {vs : Array Value} {Q : Flow → Shared → Prop} (C : Cx g W h0 env.locals m s.heap) (hl : s.heap.IsTuple l vs) (lW : l ∉ W) (hA : A.handled = none)
    (hk : env.scope.kind = .function) (hx : env.kindOf x = some .local)
    (h : ∀ I h₁, s.heap.get? I = none → Cx g W h0 env.locals m h₁ → Keep2 [] s.heap h₁ → TurnsW w A E g W env x body Q s h0 [I] (fun i v => vs[i]? = some v) vs.size 0 m h₁) :
    wpAny (MM w) A (pyIter (.ref l)) (fun it s₂ => codeAny (MM w) A (.forLoop (.Name x px) it body [] env) (fun r s' => match r with | .ok f => Q f s' | .error e => cameBackBy (MM w) A env E e s') s₂) E s := by
  refine wpAny_pyIter_tuple hl ?_
  have nI := none_of_size (h := s.heap)
  refine bc fun hGo => ?_
  obtain ⟨z0, zg, zW, zL⟩ := C.none_of nI
  refine hGo ?_; clear hGo
  have lI : s.heap.objs.size ≠ l := fun q => by obtain ⟨o, e, _⟩ := hl; rw [← q, nI] at e; cases e
  have lL : env.locals ≠ l := fun q => by
    obtain ⟨o, e, _, _, d⟩ := hl
    obtain ⟨o', _, _, e', d', _⟩ := C.ns
    rw [← q, e'] at e; cases e; rw [d] at d'; cases d'
  have C1 := C.go (Keep2.push (W := []) { cls := .type "tuple_iterator", data := .fields #[.ref l, .int 0 0] }) (fun _ q => nomatch q)
  refine for_walk (s := s) (Walks.tuple hA s.heap.objs.size l lI.symm vs) (fun i h sx a q => ?_) C1 ⟨⟨_, Heap.get?_push_size _ rfl, rfl, rfl⟩, hl.push _⟩ (by simpa using z0) (by simpa using zg)
    (fun q => ?_) (fun a q => ?_) hk hx (h _ _ nI C1 (Keep2.push _))
  · rw [List.mem_singleton.mp q]
    refine bc fun hGo => ?_
    obtain ⟨o, e, c, d⟩ := sx.1
    refine hGo ?_; clear hGo
    exact ⟨o, e, fun n => by unfold Stab at n; rw [d] at n; simp at n⟩
  · rcases List.mem_cons.mp q with q | q
    · exact zL q.symm
    · exact lL (List.mem_singleton.mp q)
  · rcases List.mem_cons.mp q with q | q
    · exact q ▸ zW
    · exact List.mem_singleton.mp q ▸ lW
theorem for_text {env : Env} {x : PySem.Str} {px : Pos} {body : List Stmt} {y : PySem.Str} {t : Tok} {Q : Flow → Shared → Prop} (C : Cx g W h0 env.locals m s.heap) (ha : y.cps.all (· < 128) = true) (hA : A.handled = none)
    (hk : env.scope.kind = .function) (hx : env.kindOf x = some .local)
    (h : ∀ I h₁, s.heap.get? I = none → Cx g W h0 env.locals m h₁ → Keep2 [] s.heap h₁ → TurnsW w A E g W env x body Q s h0 [I] (fun i v => ∃ c u, y.cps[i]? = some c ∧ v = .str ⟨#[c]⟩ u) y.cps.size 0 m h₁) :
    wpAny (MM w) A (pyIter (.str y t)) (fun it s₂ => codeAny (MM w) A (.forLoop (.Name x px) it body [] env) (fun r s' => match r with | .ok f => Q f s' | .error e => cameBackBy (MM w) A env E e s') s₂) E s := by
  refine wpAny_pyIter_ascii ha ?_
  have nI := none_of_size (h := s.heap)
  refine bc fun hGo => ?_
  obtain ⟨z0, zg, zW, zL⟩ := C.none_of nI
  refine hGo ?_; clear hGo
  have C1 := C.go (Keep2.push (W := []) { cls := .type "str_ascii_iterator", data := .fields #[.str y t, .int 0 0] }) (fun _ q => nomatch q)
  refine for_walk (s := s) (Walks.strAscii hA s.heap.objs.size y t) (fun i h sx a q => ?_) C1 ⟨_, Heap.get?_push_size _ rfl, rfl, rfl⟩ (by simpa using z0) (by simpa using zg)
    (fun q => ?_) (fun a q => ?_) hk hx (h _ _ nI C1 (Keep2.push _))
  · rw [List.mem_singleton.mp q]
    refine bc fun hGo => ?_
    obtain ⟨o, e, c, d⟩ := sx
    refine hGo ?_; clear hGo
    exact ⟨o, e, fun n => by unfold Stab at n; rw [d] at n; simp at n⟩
  · exact zL (List.mem_singleton.mp q).symm
  · exact List.mem_singleton.mp q ▸ zW
theorem for_range {env : Env} {x : PySem.Str} {px : Pos} {body : List Stmt} {r : Addr} {a b : Int} {t u v : Tok} {n : Nat} {Q : Flow → Shared → Prop} (C : Cx g W h0 env.locals m s.heap) (hr : IsRange s.heap r a b 1 t u v) (hsm : Builtin.Range.small a b 1 = true) (hn : Builtin.Range.rangeSize a b 1 = ((n : Nat) : Int)) (hA : A.handled = none)
    (hk : env.scope.kind = .function) (hx : env.kindOf x = some .local)
    (h : ∀ I h₁, s.heap.get? I = none → Cx g W h0 env.locals m h₁ → Keep2 [] s.heap h₁ → TurnsW w A E g W env x body Q s h0 [I] (fun i v => ∃ t, v = .int (a + (i : Int) * 1) t) n 0 m h₁) :
    wpAny (MM w) A (pyIter (.ref r)) (fun it s₂ => codeAny (MM w) A (.forLoop (.Name x px) it body [] env) (fun r s' => match r with | .ok f => Q f s' | .error e => cameBackBy (MM w) A env E e s') s₂) E s := by
  refine wpAny_pyIter_range hr hsm ?_
  have nI := none_of_size (h := s.heap)
  refine bc fun hGo => ?_
  obtain ⟨z0, zg, zW, zL⟩ := C.none_of nI
  refine hGo ?_; clear hGo
  have C1 := C.go (Keep2.push (W := []) { cls := .type "range_iterator", data := .fields #[rawInt a, rawInt (Builtin.Range.rangeSize a b 1), rawInt 1] }) (fun _ q => nomatch q)
  refine for_walk (s := s) (Walks.range hA s.heap.objs.size a 1 n) (fun i h sx a q => ?_) C1 (by show IsRangeIter _ _ _ _ _; rw [hn]; simpa using Heap.get?_push_size _ rfl) (by simpa using z0) (by simpa using zg)
    (fun q => ?_) (fun a q => ?_) hk hx (h _ _ nI C1 (Keep2.push _))
  · rw [List.mem_singleton.mp q]
    exact ⟨_, sx, fun n => by obtain ⟨x, t, q⟩ := n; simp [rawInt] at q⟩
  · exact zL (List.mem_singleton.mp q).symm
  · exact List.mem_singleton.mp q ▸ zW
theorem range_ab {a b : Int} {t u : Tok} {Q : Value → Shared → Prop} (h : ∀ r h' tk t₁ u₁ v₁, IsRange h' r a b 1 t₁ u₁ v₁ → Keep2 [] s.heap h' → Q (.ref r) { s with heap := h', toks := tk }) :
    wpAny (MM w) A (call (.type "range") [.int a t, .int b u]) Q E s :=
  call_range_2 (h _ _ _ _ _ _ (IsRange.new ..) (Keep2.push _))
end
theorem said13 : True := by
  k_with "m:exec For" => refine wpAny_For ?_
  trivial
def Dg (x : PySem.Str) (v : Nat) : Prop := (∃ a, a < 10 ∧ x = ⟨#[48 + a]⟩ ∧ v = a) ∨ (∃ a b, a < 10 ∧ b < 10 ∧ x = ⟨#[48 + a, 48 + b]⟩ ∧ v = 10 * a + b)
theorem fig_at : ∀ d, d < 10 → Builtin.Str.occurrences (ofString "0123456789") ⟨#[48 + d]⟩ 0 (ofString "0123456789").length 1 = [d] := by decide +kernel
theorem C_worth_of {x : PySem.Str} {t : Tok} {v : Nat} {Q : Value → Shared → Prop} (G : Gd w g) (S : St g W s.heap) (hd : A.depth + 1 < recursionLimit) (hh : A.handled = none) (hx : Dg x v)
    (h : ∀ t h' tk, Keep2 [] s.heap h' → Q (.int (v : Int) t) { s with heap := h', toks := tk }) : wpAny (MM w) A (call (.ref 124) [.str x t]) Q E s := by
  w_top off
  have S1 : St g [] s.heap := S.none
  refine enterN (W := []) [("figures", .str x t)] G S1 ((fn_at G S (f124 w)).trans rfl) (by kernel_rfl) (by walk_at "dq") (BindsTo.of_eq rfl) (locs rfl) ?_ (by rfl)
  intro L h₁ tk C nL k0
  have hv : v < 100 := by rcases hx with ⟨a, h1, _, rfl⟩ | ⟨a, b, h1, h2, _, rfl⟩ <;> omega
  repeat walk1
  rcases hx with ⟨a, h1, rfl, e0⟩ | ⟨a, b, h1, h2, rfl, e0⟩
  · refine for_text (by assumption) (by simp; omega) (by exact hh) (by kernel_rfl) (by kernel_rfl) fun I h3 nI C2 k2 => ?_
    intro v1 h4 tk4 hv1 C3 k3 k4
    refine bc fun hGo => ?_
    obtain ⟨c, u, e, rfl⟩ := hv1
    refine hGo ?_; clear hGo
    obtain rfl : 48 + a = c := by simpa using e
    repeat walk1
    refine SC.index (fig_at a h1) ?_
    repeat walk1
    refine ⟨⟨_, _, _, rfl, by assumption, ?_⟩⟩
    intro h7 tk7 C7 k7
    repeat walk1
    try dsimp only
    rw [show ((0 : Int) * 10 + (a : Int)) = (v : Int) by omega]
    exact h _ _ _ (C7.keep nL)
  · refine for_text (by assumption) (by simp; omega) (by exact hh) (by kernel_rfl) (by kernel_rfl) fun I h3 nI C2 k2 => ?_
    intro v1 h4 tk4 hv1 C3 k3 k4
    refine bc fun hGo => ?_
    obtain ⟨c, u, e, rfl⟩ := hv1
    refine hGo ?_; clear hGo
    obtain rfl : 48 + a = c := by simpa using e
    repeat walk1
    refine SC.index (fig_at a h1) ?_
    repeat walk1
    refine ⟨⟨_, _, _, rfl, by assumption, ?_⟩⟩
    intro v5 h5 tk5 hv5 C5 k5 k6
    refine bc fun hGo => ?_
    obtain ⟨c, u, e, rfl⟩ := hv5
    refine hGo ?_; clear hGo
    obtain rfl : 48 + b = c := by simpa using e
    repeat walk1
    refine SC.index (fig_at b h2) ?_
    repeat walk1
    refine ⟨⟨_, _, _, rfl, by assumption, ?_⟩⟩
    intro h7 tk7 C7 k7
    repeat walk1
    try dsimp only
    rw [show (((0 : Int) * 10 + (a : Int)) * 10 + (b : Int)) = (v : Int) by omega]
    exact h _ _ _ (C7.keep nL)
theorem said14 : True := by
  k_with "m:carry0" => (intro _ _ _ kₘ; have Cₘ := Cx.gs ‹_› kₘ; walk_at "more"; try dsimp only)
  k_with "m:call ref" => (walk_plain_pass; ((with_reducible show wpAny _ _ (call (Value.ref 124) _) _ _ _); refine C_worth_of ‹_› (Cx.st ‹_›) (by walk_at "dp") ‹_› ‹_› ?_; walk_at "carry0"))
  trivial
section
variable {w : World} {A : Around} {E : Value → Shared → Prop} {s : Shared}
def WT (w : World) (A : Around) (E : Value → Shared → Prop) (env : Env) (test : PySem.Expr) (body : List Stmt) (Q : Flow → Shared → Prop) : Nat → Shared → Prop
  | 0, _ => False
  | k + 1, s => wpAny (MM w) A (isTrue test env (eval test env)) (fun b s₂ =>
      if b then wpAny (MM w) A (execs body env) (fun f s₃ => match f with
        | .next | .cont => WT w A E env test body Q k s₃
        | .brk => Q .next s₃
        | .ret v => Q (.ret v) s₃) (notedBy (MM w) A env fun e s' => cameBackBy (MM w) A env E e s') s₂
      else Q .next s₂) (notedBy (MM w) A env fun e s' => cameBackBy (MM w) A env E e s') s
theorem WT.step {env : Env} {test : PySem.Expr} {body : List Stmt} {Q : Flow → Shared → Prop} {k : Nat} (h : wpAny (MM w) A (isTrue test env (eval test env)) (fun b s₂ =>
      if b then wpAny (MM w) A (execs body env) (fun f s₃ => match f with
        | .next | .cont => WT w A E env test body Q k s₃
        | .brk => Q .next s₃
        | .ret v => Q (.ret v) s₃) (notedBy (MM w) A env fun e s' => cameBackBy (MM w) A env E e s') s₂
      else Q .next s₂) (notedBy (MM w) A env fun e s' => cameBackBy (MM w) A env E e s') s) : WT w A E env test body Q (k + 1) s := h
theorem while_n {env : Env} {test : PySem.Expr} {body : List Stmt} {pos : Pos} {Q : Flow → Shared → Prop} (k : Nat) (h : WT w A E env test body Q k s) : wpAny (MM w) A (exec (.While test body [] pos) env) Q E s := by
  refine wpAny_While (codeAny_whileLoop (fun n s' => WT w A E env test body Q n s') (fun n s' hI => ?_) k h)
  cases n with
  | zero => exact hI.elim
  | succ n =>
    refine wpAny_mono (show wpAny _ _ _ _ _ _ from hI) (fun b s₂ h₂ => ?_) fun _ _ y => y
    cases b with
    | false => exact wpAny_execs_nil h₂
    | true =>
      refine wpAny_mono (show wpAny _ _ _ _ _ _ from h₂) (fun f s₃ h₃ => ?_) fun _ _ y => y
      cases f with
      | next => exact ⟨n, Nat.lt_succ_self _, h₃⟩
      | cont => exact ⟨n, Nat.lt_succ_self _, h₃⟩
      | brk => exact h₃
      | ret v => exact h₃
end
theorem said15 : True := by
  k_with "m:exec While" => refine while_n 3 ?_
  k_with "m:WT" => (refine WT.step ?_; try dsimp only)
  trivial
section
variable {w : World} {A : Around} {E : Value → Shared → Prop} {s : Shared}
theorem new_tuple {vs : List Value} {Q : Value → Shared → Prop} (h : ∀ a h', Keep2 [] s.heap h' → h'.get? a = some (tupO vs) → Q (.ref a) { s with heap := h' }) (hs : vs.length ≤ 100 := by exact Nat.le_of_ble_eq_true rfl) : wpAny (MM w) A (newTuple vs) Q E s := by
  simp only [newTuple]
  refine wpAny_newObj_type ?_ (by size_fits)
  exact h _ _ (Keep2.push _) (Heap.get?_push_size _ rfl)
theorem At.tup {h : Heap} {a : Addr} {vs : List Value} {ds : List PyData} (e : h.get? a = some (tupO vs)) (r : ReadsAll h vs ds []) : At h (.ref a) (.tuple ds) := .tuple e rfl rfl (by simpa using r)
theorem At.cons {h : Heap} {v : Value} {vs : List Value} {d : PyData} {ds : List PyData} (a : At h v d) (r : ReadsAll h vs ds []) : ReadsAll h (v :: vs) (d :: ds) [] := ReadsAll.cons (as := []) (bs := []) a r
end
theorem said16 : True := by
  k_with "m:at" => first
      | exact Reads.int _ _ | exact Reads.str _ _ | exact Reads.none | exact Reads.bool _
      | assumption
      | exact At.tup ‹_› (by walk_at "ats")
      | exact At.go ‹_› (by walk_at "at") | fail "at"
  k_with "m:ats" => first
      | exact ReadsAll.nil
      | exact At.cons (by walk_at "at") (by walk_at "ats") | fail "ats"
  k_with "m:newTuple" => (walk_plain_pass; (refine new_tuple ?_; intro aₘ hₘ kₘ eₘ; have Cₘ := Cx.gs ‹_› kₘ; (first | have Hₘ := RD.gs ‹_› kₘ (by walk_at "sm") | skip); (first | have tₘ := At.tup eₘ (by walk_at "ats") | skip); walk_at "more"; try dsimp only))
  trivial
theorem C_decimal {t t2 : Tok} {v : Nat} {Q : Value → Shared → Prop} (G : Gd w g) (S : St g W s.heap) (hd : A.depth + 1 < recursionLimit) 
    (h : ∀ a h' tk, Keep2 [] s.heap h' → At h' (.ref a) (.tuple [.int (v : Int), .int 0]) → Q (.ref a) { s with heap := h', toks := tk }) : wpAny (MM w) A (call (.ref 89) [.int (v : Int) t, .int 0 t2]) Q E s := by
  w_top off
  have S1 : St g [] s.heap := S.none
  refine enterN (W := []) [("units", .int (v : Int) t), ("scale", .int 0 t2)] G S1 ((fn_at G S (f89 w)).trans rfl) (by kernel_rfl) (by walk_at "dq") (BindsTo.of_defaults (T := 82) rfl (fn_at G S (f82 w)) rfl rfl rfl) (locs rfl) ?_ (by rfl)
  intro L h₁ tk C nL k0
  repeat walk1
  try dsimp only
  exact h _ _ _ (Cx.keep (by assumption) nL) (by assumption)
theorem said17 : True := by
  k_with "m:call ref" => (walk_plain_pass; ((with_reducible show wpAny _ _ (call (Value.ref 89) _) _ _ _); refine C_decimal ‹_› (Cx.st ‹_›) (by walk_at "dp") ?_; intro _ _ _ kₘ tₘ; have Cₘ := Cx.gs ‹_› kₘ; walk_at "more"; try dsimp only))
  trivial
section
variable {w : World} {A : Around} {E : Value → Shared → Prop} {s : Shared} {value slice : PySem.Expr} {x : PySem.Str} {t : Tok} {Q : Value → Shared → Prop}
theorem slice_ns {j : Int} {uj : Tok} (hsz : x.length ≤ sizeLine) (h : ∀ t' h' k, Keep2 [] s.heap h' → Q (.str (Txt.slice x none (some j)) t') { s with heap := h', toks := k })
    (hs : subscripted slice false (.str x t) (.ref s.heap.objs.size) = operate [.ref s.heap.objs.size, .str x t] (getItem (.str x t) (.ref s.heap.objs.size)) := by with_unfolding_all rfl)
    (ht : ∀ r, letTemporaryGo value (.str x t) r = pure () := by intro _; with_unfolding_all rfl) :
    wpAny (MM w) A (subscriptTail value slice (.str x t) (.ref s.heap.objs.size)) Q E { s with heap := s.heap.push { cls := .type "slice", data := .fields #[.none, .int j uj, .none] } } :=
  tail_of_ItemOn (SBH.sliceItem_ns (keptH (h := s.heap)) .refl (fun h' t' k a => h t' h' k a) hsz) hs ht
theorem slice_sn {i : Int} {ui : Tok} (hsz : x.length ≤ sizeLine) (h : ∀ t' h' k, Keep2 [] s.heap h' → Q (.str (Txt.slice x (some i) none) t') { s with heap := h', toks := k })
    (hs : subscripted slice false (.str x t) (.ref s.heap.objs.size) = operate [.ref s.heap.objs.size, .str x t] (getItem (.str x t) (.ref s.heap.objs.size)) := by with_unfolding_all rfl)
    (ht : ∀ r, letTemporaryGo value (.str x t) r = pure () := by intro _; with_unfolding_all rfl) :
    wpAny (MM w) A (subscriptTail value slice (.str x t) (.ref s.heap.objs.size)) Q E { s with heap := s.heap.push { cls := .type "slice", data := .fields #[.int i ui, .none, .none] } } :=
  tail_of_ItemOn (SBH.sliceItem_sn (keptH (h := s.heap)) .refl (fun h' t' k a => h t' h' k a) hsz) hs ht
end
theorem said18 : True := by
  k_with "m:subscriptTail Name Slice str ref" => (refine slice_ns (s := ⟨_, _, _, _, _⟩) ‹_› ?_; (intro _ _ _ kₘ; have Cₘ := Cx.gs ‹_› kₘ; walk_at "more"; try dsimp only))
  trivial
section
variable {w : World} {A : Around} {E : Value → Shared → Prop} {s : Shared} {x : PySem.Str} {t : Tok}
def strIs (x : PySem.Str) : Value → Bool
  | .str y _ => y == x
  | _ => false
def isS : Value → Bool
  | .str _ _ => true
  | _ => false
def allStr (vs : List Value) : Bool := vs.all isS
theorem eq_strs {vs : List Value} (e : allStr vs = true) (v : Value) (m : v ∈ vs) : SeqAt.EqAt A.in1 s v (.str x t) (strIs x v) := by
  have q := List.all_eq_true.mp e v m
  clear e m
  cases v with
  | str y u => exact (eqGives_str y x u t).at _ _
  | _ => exact absurd q Bool.false_ne_true
theorem in_strs {a : Addr} {vs : List Value} {b : Bool} {Q : Value → Shared → Prop} (e : s.heap.get? a = some (tupO vs)) (ha : allStr vs = true) (hb : vs.any (strIs x) = b) (h : Q (.bool b) s) : wpAny (MM w) A (compareOp .In (.str x t) (.ref a)) Q E s :=
  SeqAt.in_tupleAt (strIs x) ⟨_, e, rfl, _, rfl⟩ (fun v m => eq_strs ha v (by simpa using m)) (by simpa [hb] using h)
theorem notIn_strs {a : Addr} {vs : List Value} {b : Bool} {Q : Value → Shared → Prop} (e : s.heap.get? a = some (tupO vs)) (ha : allStr vs = true) (hb : (!vs.any (strIs x)) = b) (h : Q (.bool b) s) : wpAny (MM w) A (compareOp .NotIn (.str x t) (.ref a)) Q E s :=
  SeqAt.notIn_tupleAt (strIs x) ⟨_, e, rfl, _, rfl⟩ (fun v m => eq_strs ha v (by simpa using m)) (by rw [← hb] at h; simpa using h)
theorem unpack_tup {a : Addr} {vs : List Value} {n : Nat} {Q : List Value → Shared → Prop} (hh : A.handled = none) (e : s.heap.get? a = some (tupO vs)) (hn : n = vs.toArray.size)
    (h : ∀ h', Keep2 [] s.heap h' → Q vs { s with heap := h' }) : wpAny (MM w) A (unpackItems (.ref a) n none) Q E s := by
  subst hn
  exact wpAny_unpackItems_tuple hh ⟨_, e, rfl, _, rfl⟩ fun h' he => h h' (Keep2.all fun b o q => he b o (Nat.ne_of_lt (Heap.lt_size q)) q)
theorem ite_no {c : Prop} [Decidable c] {P R : Prop} (h : ¬ c) (q : R) : if c then P else R := by rw [if_neg h]; exact q
theorem ite_yes {c : Prop} [Decidable c] {P R : Prop} (h : c) (q : P) : if c then P else R := by rw [if_pos h]; exact q
end
theorem said19 : True := by
  k_with "m:unpackItems" => (walk_plain_pass; (refine unpack_tup ‹_› ‹_› (by rfl) ?_; intro _ kₘ; have Cₘ := Cx.gs ‹_› kₘ; (first | have Hₘ := RD.gs ‹_› kₘ (by walk_at "sm") | skip); walk_at "more"; try dsimp only))
  trivial
section
def dgOk (x : PySem.Str) : Bool :=
  !(("-" : PySem.Str) == Txt.slice x none (some 1)) && !(("+" : PySem.Str) == Txt.slice x none (some 1)) && !(Txt.slice x none (some 1) == ("-" : PySem.Str)) && Txt.slice x (some 0) none == x && (Builtin.Str.occurrences x ("." : PySem.Str) 0 x.length 1).isEmpty && x ++ ("" : PySem.Str) == x && !(x == ("" : PySem.Str)) && decide (1 ≤ x.length) && decide (x.length ≤ 2)
   && (List.range x.length).all (fun (i : Nat) => !(Builtin.Str.occurrences (ofString "0123456789") (Txt.item x (0 + (i : Int) * 1)) 0 (ofString "0123456789").length 1).isEmpty)
theorem dgOk_of {x : PySem.Str} {v : Nat} (hx : Dg x v) : dgOk x = true := by
  rcases hx with ⟨a, h1, rfl, -⟩ | ⟨a, b, h1, h2, rfl, -⟩
  · exact (by decide +kernel : ∀ a, a < 10 → dgOk ⟨#[48 + a]⟩ = true) a h1
  · exact (by decide +kernel : ∀ a, a < 10 → ∀ b, b < 10 → dgOk ⟨#[48 + a, 48 + b]⟩ = true) a h1 b h2
open G1
theorem said20 : True := by
  k_with "m:storeName" => (guard_expr on1 =ₛ on1; (walk_plain_pass; (first | refine stK ‹_› ?_ (by kernel_rfl!) | refine store ‹_› ?_ (by kernel_rfl!) (by kernel_rfl!)); intro hₘ Cₘ kₘ))
  k_with "m:ite" => (guard_expr on1 =ₛ on1; first | refine ite_no (by simp only [*, Bool.not_false, Bool.not_true, Bool.false_eq_true, not_false_eq_true]; done) ?_ | refine ite_no (by simp [*]; done) ?_ | refine ite_yes (by simp [*]; done) ?_)
  trivial
theorem C_read_decimal {x : PySem.Str} {t : Tok} {v : Nat} {Q : Value → Shared → Prop} (G : Gd w g) (S : St g W s.heap) (hd : A.depth + 2 < recursionLimit) (hh : A.handled = none) (hx : Dg x v)
    (h : ∀ a h' tk, Keep2 [] s.heap h' → At h' (.ref a) (.tuple [.int (v : Int), .int 0]) → Q (.ref a) { s with heap := h', toks := tk }) : wpAny (MM w) A (call (.ref 131) [.str x t]) Q E s := by
  w_top off
  have S1 : St g [] s.heap := S.none
  refine enterN (W := []) [("text", .str x t)] G S1 ((fn_at G S (f131 w)).trans rfl) (by kernel_rfl) (by walk_at "dq") (BindsTo.of_eq rfl) (locs rfl) ?_ (by rfl)
  intro L h₁ tk C nL k0
  have hv : v < 100 := by rcases hx with ⟨a, h1, _, rfl⟩ | ⟨a, b, h1, h2, _, rfl⟩ <;> omega
  have hz : x.length ≤ sizeLine := by rw [PySem.sizeLine_eq]; rcases hx with ⟨a, h1, rfl, _⟩ | ⟨a, b, h1, h2, rfl, _⟩ <;> (show _ ≤ _; simp [PySem.Str.length])
  have ok := dgOk_of hx
  unfold dgOk at ok
  simp only [Bool.and_eq_true, Bool.not_eq_true', decide_eq_true_eq] at ok
  refine bc fun hGo => ?_
  obtain ⟨⟨⟨⟨⟨⟨⟨⟨⟨f0, f1⟩, f2⟩, f3⟩, f4⟩, f5⟩, f6⟩, f7⟩, f8⟩, f9⟩ := ok
  refine hGo ?_; clear hGo
  have f3 := eq_of_beq f3
  have f5 := eq_of_beq f5
  repeat walk1
  refine in_strs (b := false) (by assumption) (by rfl) (by simp only [List.any_cons, List.any_nil, strIs, Bool.or_false]; rw [f0, f1]; rfl) ?_
  repeat walk1
  refine slice_sn (s := ⟨_, _, _, _, _⟩) (by assumption) ?_
  intro t5 h5 k5 k6
  have C5 := Cx.gs (by assumption) k6
  try dsimp only
  rw [f3]
  repeat walk1
  refine range_ab ?_
  intro r6 h6 k7 t7 u7 v7 hr k8
  have C6 := Cx.gs (by assumption) k8
  have hsm : Builtin.Range.small 0 (x.length : Int) 1 = true := by rcases hx with ⟨a, h1, rfl, -⟩ | ⟨a, b, h1, h2, rfl, -⟩ <;> (show _ = _; simp [PySem.Str.length]; decide)
  have hn : Builtin.Range.rangeSize 0 (x.length : Int) 1 = ((x.length : Nat) : Int) := by rcases hx with ⟨a, h1, rfl, -⟩ | ⟨a, b, h1, h2, rfl, -⟩ <;> (show _ = _; simp [PySem.Str.length]; decide)
  try dsimp only
  refine for_range C6 hr hsm hn (by exact hh) (by kernel_rfl) (by kernel_rfl) fun I h8 nI C8 k9 => ?_
  have f9 : ∀ i : Nat, i < x.length → (Builtin.Str.occurrences (ofString "0123456789") (Txt.item x (0 + (i : Int) * 1)) 0 (ofString "0123456789").length 1).isEmpty = false := fun i hi => by
    have := List.all_eq_true.mp f9 i (List.mem_range.mpr hi); simpa using this
  have hl : x.length = 1 ∨ x.length = 2 := by omega
  have hx2 : Dg (x ++ ofString "") v := by rw [f5]; exact hx
  rcases hl with hl | hl
  · rw [hl]
    intro v9 h9 tk9 hv9 C9 k10 k11
    refine bc fun hGo => ?_
    obtain ⟨t9, rfl⟩ := hv9
    refine hGo ?_; clear hGo
    have q := f9 0 (by omega)
    repeat walk1
    dsimp only
    refine ⟨⟨_, _, _, rfl, by assumption, ?_⟩⟩
    intro h12 tk12 C12 k12
    repeat walk1
    try dsimp only
    refine C_worth_of (v := v) G (Cx.st (by assumption)) (by walk_at "dp") hh hx2 ?_
    walk_at "carry0"
    repeat walk1
    try dsimp only
    refine len_str (by decide) ?_
    rw [show ((ofString "").length : Int) = 0 by decide]
    repeat walk1
    try dsimp only
    exact h _ _ _ (Cx.keep (by assumption) nL) (by assumption)
  · rw [hl]
    intro v9 h9 tk9 hv9 C9 k10 k11
    refine bc fun hGo => ?_
    obtain ⟨t9, rfl⟩ := hv9
    refine hGo ?_; clear hGo
    have q := f9 0 (by omega)
    have q2 := f9 1 (by omega)
    repeat walk1
    dsimp only
    refine ⟨⟨_, _, _, rfl, by assumption, ?_⟩⟩
    intro v9 h9 tk9 hv9 C9 k10 k11
    refine bc fun hGo => ?_
    obtain ⟨t9, rfl⟩ := hv9
    refine hGo ?_; clear hGo
    repeat walk1
    dsimp only
    refine ⟨⟨_, _, _, rfl, by assumption, ?_⟩⟩
    intro h12 tk12 C12 k12
    repeat walk1
    try dsimp only
    refine C_worth_of (v := v) G (Cx.st (by assumption)) (by walk_at "dp") hh hx2 ?_
    walk_at "carry0"
    repeat walk1
    try dsimp only
    refine len_str (by decide) ?_
    rw [show ((ofString "").length : Int) = 0 by decide]
    repeat walk1
    try dsimp only
    exact h _ _ _ (Cx.keep (by assumption) nL) (by assumption)
end
theorem said21 : True := by
  k_with "m:call ref" => (walk_plain_pass; ((with_reducible show wpAny _ _ (call (Value.ref 131) _) _ _ _); refine C_read_decimal ‹_› (Cx.st ‹_›) (by walk_at "dp") ‹_› ‹_› ?_; intro _ _ _ kₘ tₘ; have Cₘ := Cx.gs ‹_› kₘ; (first | have Hₘ := RD.gs ‹_› kₘ (by walk_at "sm") | skip); walk_at "more"; try dsimp only))
  trivial
theorem C_signed {x : PySem.Str} {v : Nat} {Q : Value → Shared → Prop} (G : Gd w g) (S : St g W s.heap) (R : RS w g r D tl nd toks ts) (H : RD w s.heap D tl p nd) (hD : D ∈ W) (hh : A.handled = none) (hd : A.depth + 4 < recursionLimit) (hp : p < 2 ^ 29) (ht : ts[p]? = some (nb x)) (hx : Dg x v)
    (h : ∀ a h' tk, Keep2 [D] s.heap h' → RD w h' D tl (p + 1) nd → At h' (.ref a) (.tuple [.int (v : Int), .int 0]) → Q (.ref a) { s with heap := h', toks := tk }) : wpAny (MM w) A (call (.ref 618) [.ref r]) Q E s := by
  w_top off
  have S1 : St g [D] s.heap := S.less (sub1 hD)
  refine enterN (W := [D]) [("self", .ref r)] G S1 ((fn_at G S (f618 w)).trans rfl) (by kernel_rfl) (by walk_at "dq") (BindsTo.of_eq rfl) (locs rfl) ?_ (by rfl)
  intro L h₁ tk C nL k0
  have dL : D ≠ L := ne_of_live H.live nL
  replace H := H.up k0
  have hq := R.lt ht
  repeat walk1
  try dsimp only
  exact h _ _ _ (Cx.keep (by assumption) nL) (by assumption) (by walk_at "at")
theorem said22 : True := by
  k_with "m:call ref" => (walk_plain_pass; ((with_reducible show wpAny _ _ (call (Value.ref 618) _) _ _ _); refine C_signed ‹_› (Cx.st ‹_›) ‹_› ‹_› (by walk_at "sm") ‹_› (by walk_at "dp") (by walk_at "om") ‹_› ‹_› ?_; intro _ _ _ kₘ Hₘ tₘ; have Cₘ := Cx.gs ‹_› kₘ; walk_at "more"; try dsimp only))
  trivial
section
variable {w : World} {A : Around} {E : Value → Shared → Prop} {s : Shared} {g : Heap} {W : List Addr} {x : PySem.Str} {t : Tok} {d : Addr} {es : Array DictEntry} {n : Nat} {r : Option Value}
theorem in_K {b : Bool} {Q : Value → Shared → Prop} (G : Gd w g) (S : St g W s.heap) (hl : (K w.params).lookup d = some ⟨.type "dict", none, .dict es n, #[]⟩) (hk : KeysLit w.params es.toList) (e : nsIn (K w.params) d x = some r) (lo : (d == sysModules) = false) (hb : r.isSome = b)
    (h : Q (.bool b) { s with toks := s.toks + 1 }) : wpAny (MM w) A (compareOp .In (.str x t) (.ref d)) Q E s :=
  wpAny_in_of (strKind_is PP w x t) lo (mapOf_K (prog := PP) (G.keeps S.sub).K hl hk) (by rw [find_K hl e, hb]; exact h)
theorem notIn_K {b : Bool} {Q : Value → Shared → Prop} (G : Gd w g) (S : St g W s.heap) (hl : (K w.params).lookup d = some ⟨.type "dict", none, .dict es n, #[]⟩) (hk : KeysLit w.params es.toList) (e : nsIn (K w.params) d x = some r) (lo : (d == sysModules) = false) (hb : (!r.isSome) = b)
    (h : Q (.bool b) { s with toks := s.toks + 1 }) : wpAny (MM w) A (compareOp .NotIn (.str x t) (.ref d)) Q E s :=
  wpAny_notIn_of (strKind_is PP w x t) lo (mapOf_K (prog := PP) (G.keeps S.sub).K hl hk) (by rw [find_K hl e, hb]; exact h)
theorem item_K {value slice : PySem.Expr} {v : Value} {Q : Value → Shared → Prop} (G : Gd w g) (S : St g W s.heap) (hl : (K w.params).lookup d = some ⟨.type "dict", none, .dict es n, #[]⟩) (hk : KeysLit w.params es.toList) (e : nsIn (K w.params) d x = some (some v))
    (h : Q v { s with toks := s.toks + 1 })
    (hs : subscripted slice false (.ref d) (.str x t) = operate [.ref d, .str x t] (getItem (.ref d) (.str x t)) := by with_unfolding_all rfl) :
    wpAny (MM w) A (subscriptTail value slice (.ref d) (.str x t)) Q E s :=
  have hm := mapOf_K (prog := PP) (G.keeps S.sub).K hl hk
  tail_any hm.typeIs slot_dict_getitem.lookup (wpAny_getItem_of (strKind_is PP w x t) hm (find_K hl e) h) hs
theorem k132 (w : World) : ∃ es n, (K w.params).lookup 132 = some ⟨.type "dict", none, .dict es n, #[]⟩ ∧ KeysLit w.params es.toList := ⟨_, _, (by kernel_rfl : (K w.params).lookup 132 = some (o132 w.params)), by k_keys⟩
theorem k240 (w : World) : ∃ es n, (K w.params).lookup 240 = some ⟨.type "dict", none, .dict es n, #[]⟩ ∧ KeysLit w.params es.toList := ⟨_, _, (by kernel_rfl : (K w.params).lookup 240 = some (o240 w.params)), by k_keys⟩
theorem k241 (w : World) : ∃ es n, (K w.params).lookup 241 = some ⟨.type "dict", none, .dict es n, #[]⟩ ∧ KeysLit w.params es.toList := ⟨_, _, (by kernel_rfl : (K w.params).lookup 241 = some (o241 w.params)), by k_keys⟩
end
theorem noFig {w : World} {x : PySem.Str} (hx : isNm x) : nsIn (K w.params) 132 x = some none := by
  rcases hx with rfl | rfl | rfl | rfl | rfl
  all_goals kernel_rfl
theorem said23 : True := by
  k_with "m:kd" => first | exact noFig ‹_› | fail "kd"
  k_with "m:compareOp NotIn str ref" => (walk_plain_pass; (first
      | (with_reducible show wpAny _ _ (compareOp _ _ (.ref 132)) _ _ _; obtain ⟨es, n, hl, hk⟩ := k132 _; refine notIn_K ‹_› (Cx.st ‹_›) hl hk (by walk_at "kd") (by decide) (by rfl) ?_)))
  trivial
section
variable {w : World} {A : Around} {E : Value → Shared → Prop} {s : Shared}
theorem assign_tup {env : Env} {elts : List PySem.Expr} {x1} {pos : Pos} {a : Addr} {vs : List Value} {Q : Unit → Shared → Prop} (hh : A.handled = none) (e : s.heap.get? a = some (tupO vs))
    (hn : (assignEach elts env).length = vs.toArray.size) (hstar : (assignEach elts env).findIdx? (·.1) = none)
    (h : ∀ h', Keep2 [] s.heap h' → wpAny (MM w) A (assignInOrder ((assignEach elts env).map (·.2)) vs) Q E { s with heap := h' }) :
    wpAny (MM w) A (assign (.Tuple elts x1 pos) env (.ref a)) Q E s :=
  assign_Tuple_tuple hh ⟨_, e, rfl, _, rfl⟩ hn hstar fun h' he => h h' (Keep2.all fun b o q => he b o (Nat.ne_of_lt (Heap.lt_size q)) q)
theorem ite_t2 {b : Bool} {P R : Prop} (h : b = true) (q : P) : if b = true then P else R := by rw [if_pos h]; exact q
theorem ite_f2 {b : Bool} {P R : Prop} (h : b = false) (q : R) : if b = true then P else R := by rw [if_neg (by rw [h]; exact Bool.false_ne_true)]; exact q
end
theorem said24 : True := by
  k_with "m:assign Tuple" => (walk_plain_pass; (refine assign_tup ‹_› ‹_› (by rfl) (by rfl) ?_; intro _ kₘ; have Cₘ := Cx.gs ‹_› kₘ; (first | have Hₘ := RD.gs ‹_› kₘ (by walk_at "sm") | skip); walk_at "more"; try dsimp only))
  k_with "m:ite" => first | refine ite_t2 ‹_› ?_ | refine ite_f2 ‹_› ?_
  k_with "m:stab" => first | assumption | exact Keep2.stab ‹_› _ _ (by first | rfl | trivial) (by walk_at "stab") | fail "stab"
  trivial
theorem C_read_figure {x : PySem.Str} {Q : Value → Shared → Prop} (G : Gd w g) (S : St g W s.heap) (R : RS w g r D tl nd toks ts) (H : RD w s.heap D tl p nd) (hd : A.depth + 3 < recursionLimit) (hp : p < 2 ^ 29) (ht : ts[p]? = some (wd x)) (hx : isNm x)
    (h : ∀ h' tk, Keep2 [] s.heap h' → Q .none { s with heap := h', toks := tk }) : wpAny (MM w) A (call (.ref 174) [.ref r]) Q E s := by
  w_top off
  have S1 : St g [] s.heap := S.none
  refine enterN (W := []) [("reader", .ref r)] G S1 ((fn_at G S (f174 w)).trans rfl) (by kernel_rfl) (by walk_at "dq") (BindsTo.of_eq rfl) (locs rfl) ?_ (by rfl)
  intro L h₁ tk C nL k0
  have dL : D ≠ L := ne_of_live H.live nL
  replace H := H.up k0
  have hq := R.lt ht
  repeat walk1
  try dsimp only
  try dsimp only
  exact h _ _ (Cx.keep (by assumption) nL)
theorem said25 : True := by
  k_with "m:call ref" => (walk_plain_pass; ((with_reducible show wpAny _ _ (call (Value.ref 174) _) _ _ _); refine C_read_figure ‹_› (Cx.st ‹_›) ‹_› ‹_› (by walk_at "dp") (by walk_at "om") ‹_› ‹_› ?_; walk_at "carry"))
  trivial
theorem C_is_part_next  {Q : Value → Shared → Prop} (G : Gd w g) (S : St g W s.heap) (R : RS w g r D tl nd toks ts) (H : RD w s.heap D tl p nd) (hh : A.handled = none) (hd : A.depth + 3 < recursionLimit) (hp : p < 2 ^ 29) (n1 : tokIs ts p "sign" "(" = false)
    (h : ∀ h' tk, Keep2 [] s.heap h' → Q (.bool false) { s with heap := h', toks := tk }) : wpAny (MM w) A (call (.ref 139) [.ref r]) Q E s := by
  w_top off
  have S1 : St g [] s.heap := S.none
  refine enterN (W := []) [("reader", .ref r)] G S1 ((fn_at G S (f139 w)).trans rfl) (by kernel_rfl) (by walk_at "dq") (BindsTo.of_eq rfl) (locs rfl) ?_ (by rfl)
  intro L h₁ tk C nL k0
  have dL : D ≠ L := ne_of_live H.live nL
  replace H := H.up k0
  repeat walk1
  try dsimp only
  try dsimp only
  exact h _ _ (Cx.keep (by assumption) nL)
theorem said26 : True := by
  k_with "m:call ref" => (walk_plain_pass; ((with_reducible show wpAny _ _ (call (Value.ref 139) _) _ _ _); refine C_is_part_next ‹_› (Cx.st ‹_›) ‹_› ‹_› ‹_› (by walk_at "dp") (by walk_at "om") (by walk_at "tk") ?_; walk_at "carry"))
  trivial
theorem C_sign_among {a : Addr} {vs : List Value} {t : Tx} {Q : Value → Shared → Prop} (G : Gd w g) (S : St g W s.heap) (R : RS w g r D tl nd toks ts) (H : RD w s.heap D tl p nd) (hd : A.depth + 1 < recursionLimit) (hp : p < 2 ^ 29) (e : s.heap.get? a = some (tupO vs)) (ha : allStr vs = true) (ht : ts[p]? = some t) (hn : (t.1 == ofString "sign" && vs.any (strIs t.2)) = false)
    (h : ∀ u h' tk, Keep2 [] s.heap h' → Q (.str "" u) { s with heap := h', toks := tk }) : wpAny (MM w) A (call (.ref 195) [.ref r, .ref a]) Q E s := by
  w_top off
  have S1 : St g [] s.heap := S.none
  refine enterN (W := []) [("reader", .ref r), ("signs", .ref a)] G S1 ((fn_at G S (f195 w)).trans rfl) (by kernel_rfl) (by walk_at "dq") (BindsTo.of_eq rfl) (locs rfl) ?_ (by rfl)
  intro L h₁ tk C nL k0
  have dL : D ≠ L := ne_of_live H.live nL
  replace H := H.up k0
  have hq := R.lt ht
  have e1 := k0 _ _ e
  cases hk : t.1 == ofString "sign" with
  | false =>
    have hk2 : (t.1 != ofString "sign") = true := by simp [bne, hk]
    repeat walk1
    try dsimp only
    exact h _ _ _ (Cx.keep (by assumption) nL)
  | true =>
    rw [hk, Bool.true_and] at hn
    have hk2 : (t.1 != ofString "sign") = false := by simp [bne, hk]
    repeat walk1
    refine notIn_strs (b := true) (by walk_at "stab") ha (by rw [hn]; rfl) ?_
    repeat walk1
    try dsimp only
    exact h _ _ _ (Cx.keep (by assumption) nL)
theorem said27 : True := by
  k_with "m:call ref" => (walk_plain_pass; ((with_reducible show wpAny _ _ (call (Value.ref 195) _) _ _ _); refine C_sign_among ‹_› (Cx.st ‹_›) ‹_› ‹_› (by walk_at "dp") (by walk_at "om") ‹_› (by rfl) ‹_› (by walk_at "sn") ?_; intro _ _ _ kₘ; have Cₘ := Cx.gs ‹_› kₘ; (first | have Hₘ := RD.gs ‹_› kₘ (by walk_at "sm") | skip); walk_at "more"; try dsimp only))
  trivial
section
variable {w : World} {A : Around} {E : Value → Shared → Prop} {s : Shared} {g : Heap} {W : List Addr} {h0 : Heap} {L : Addr} {m : PySem.Str → Option Value}
theorem IsCell.go {h h' : Heap} {X : List Addr} {c : Addr} {v : Option Value} (k : Keep2 X h h') (x : h.IsCell c v) : h'.IsCell c v := by
  obtain ⟨o, e, d⟩ := x
  exact ⟨o, k.stab _ _ (by unfold Stab; rw [d]; trivial) e, d⟩
theorem codeRec_go {h h' : Heap} {X : List Addr} {cd : Value} {q : PySem.Str} (k : Keep2 X h h') (x : h.CodeRec cd q) : h'.CodeRec cd q := by
  obtain ⟨c, o, vs, t, e, a, d, y⟩ := x
  exact ⟨c, o, vs, t, e, k.stab _ _ (by unfold Stab; rw [d]; exact ⟨q, t, y⟩) a, d, y⟩
theorem enterC {R : Result → Shared → Prop} {f : Addr} {name qual : PySem.Str} {params : Arguments} {body : List Stmt} {scope : Scope} {dV kV doc pm cdv ct oc : Value} {an od : Option Addr}
    {osl : Array (Option Value)} {vals : List Value} (binds : List (PySem.Str × Value)) (cl : Addr → List (PySem.Str × Addr))
    (G : Gd w g) (S : St g W s.heap) (ho : s.heap.get? f = some ⟨oc, od, .func (fnX name qual params body scope [] dV kV doc pm an cdv ct), osl⟩) (hcd : codeIn (K w.params) cdv qual = true) (hroom : A.depth < recursionLimit)
    (hbind : bindArgs (fnX name qual params body scope [] dV kV doc pm an cdv ct) ⟨vals, []⟩ = pure binds) (hcl : ∀ L, cellsFrom (L + 1) scope.names [] = cl L)
    (hkind : ∀ L, ∀ x ∈ binds, scope.names.lookup x.1 = some .local ∨ (scope.names.lookup x.1 = some .cell ∧ ((cl L).lookup x.1).isSome = true))
    (h : ∀ L h₁ tk, Cx g W s.heap L (bindL (envX qual scope L f cdv (cl L)).kindOf binds fun _ => none) h₁ → s.heap.get? L = none → (∀ b o, s.heap.get? b = some o → h₁.get? b = some o) →
      (∀ n c, (cl L).lookup n = some c → h₁.IsCell c (bindC (envX qual scope L f cdv (cl L)).kindOf binds (fun _ => none) n)) →
      wpAny (MM w) (A.deeper (envX qual scope L f cdv (cl L))) (execs body (envX qual scope L f cdv (cl L))) (fun fl s' => R (.ok (.ret (match fl with | .ret v => v | _ => .none))) s')
        (fun e s' => wpAny (MM w) (A.deeper (envX qual scope L f cdv (cl L))) (leaving (envX qual scope L f cdv (cl L)) e) (fun _ s'' => R (.error e) s'') (fun e' s'' => R (.error e') s'') s')
        { s with heap := h₁, toks := tk })
    (hco : scope.isCoroutine = false := by rfl) (hgen : scope.isGenerator = false := by rfl) (hk : scope.kind = .function := by rfl) : codeAny (MM w) A (.call (.ref f) ⟨vals, []⟩) R s := by
  have G' := G.keeps S.sub
  refine codeAny_call_cells (binds := binds) (body := body) (fd := fnX name qual params body scope [] dV kV doc pm an cdv ct) hroom ho rfl G'.lim (codeRec_of G'.K hcd) rfl hbind rfl (by rw [show (fnX name qual params body scope [] dV kV doc pm an cdv ct).scope = scope from rfl, hcl]; exact hkind _) (fun s₁ ic => ?_) hco hgen hk
  have ee : callEnvC (fnX name qual params body scope [] dV kV doc pm an cdv ct) s.heap.objs.size f = envX qual scope s.heap.objs.size f cdv (cl s.heap.objs.size) := by
    rw [← hcl]; rfl
  rw [ee] at ic ⊢
  refine bc fun hGo => ?_
  obtain ⟨h₁, tk, rfl⟩ := ic.toInCall.same
  refine hGo ?_; clear hGo
  have kb := ic.toInCall.keep
  have nL := none_of_size (h := s.heap)
  have nW : s.heap.objs.size ∉ W := fun q => by obtain ⟨o, e⟩ := S.live _ q; rw [nL] at e; cases e
  have gL : g.get? s.heap.objs.size = none := by
    cases q : g.get? s.heap.objs.size with
    | none => rfl
    | some o => have e := S.sub _ o q; rw [nL] at e; cases e
  exact h _ h₁ tk ⟨ic.toInCall.ns, ⟨fun b o e => kb b o (S.sub b o e), S.off, fun a q => let ⟨o, e⟩ := S.live a q; ⟨o, kb a o e⟩⟩, nW, gL, Keep2.all kb⟩ nL kb fun n c e => ic.cell n c e
theorem n_cell {env : Env} {x : PySem.Str} {pos : Pos} {c : Addr} {v : Value} {Q : Value → Shared → Prop} (hc : env.cells.lookup x = some c) (hv : s.heap.IsCell c (some v)) (h : Q v s)
    (hk : env.scope.kind = .function) (hl : env.kindOf x = some .cell) (hd : (x == ("__debug__" : PySem.Str)) = false) : wpAny (MM w) A (eval (.Name x pos) env) Q E s :=
  wpAny_Name (wpAny_loadName_cell hk hl hc hv h) hd
theorem n_free {env : Env} {x : PySem.Str} {pos : Pos} {c : Addr} {v : Value} {Q : Value → Shared → Prop} (hc : env.cells.lookup x = some c) (hv : s.heap.IsCell c (some v)) (h : Q v s)
    (hk : env.scope.kind = .function) (hl : env.kindOf x = some .free) (hd : (x == ("__debug__" : PySem.Str)) = false) (hn : (x == ("__classdict__" : PySem.Str)) = false) : wpAny (MM w) A (eval (.Name x pos) env) Q E s :=
  wpAny_Name (wpAny_loadName_free hk hl hc hv h hn) hd
def Lt (h : Heap) (P : Addr) (pos : Pos) (qual : PySem.Str) : Prop := ∃ ps, h.get? P = some (tabObj ps) ∧ (ps = #[] ∨ ∃ c', ps = #[rawInt pos.line, rawInt pos.col, .ref c'] ∧ h.CodeRec (.ref c') qual)
theorem Lt.go {h h' : Heap} {P : Addr} {pos : Pos} {qual : PySem.Str} {X : List Addr} (x : Lt h P pos qual) (k : Keep2 X h h') (n : P ∉ X) : Lt h' P pos qual := by
  obtain ⟨ps, e, y⟩ := x
  exact ⟨ps, k.keep _ _ e n, y.elim .inl fun ⟨c', a, b⟩ => .inr ⟨c', a, codeRec_go k b⟩⟩
theorem Lt.ne_rd {h : Heap} {P D tl : Addr} {p : Nat} {nd : Value} {pos : Pos} {qual : PySem.Str} (x : Lt h P pos qual) (H : RD w h D tl p nd) : D ≠ P := fun q => by
  obtain ⟨ps, e, _⟩ := x
  obtain ⟨_, _, _, _, _, e2⟩ := H
  rw [← q, e2] at e; cases e
theorem Lt.ne_ns {h : Heap} {P : Addr} {pos : Pos} {qual : PySem.Str} (x : Lt h P pos qual) (hn : h.Ns L m) : L ≠ P := fun q => by
  obtain ⟨ps, e, _⟩ := x
  obtain ⟨o, _, _, e2, d, _⟩ := hn
  rw [← q, e2] at e; cases e; cases d
theorem mk_lam {env : Env} {name qual : PySem.Str} {params : Arguments} {body : PySem.Expr} {scope : Scope} {pos : Pos} {firstLine : Nat} {c P : Addr} {clos : List (PySem.Str × Addr)} {Q : Value → Shared → Prop}
    (G : Gd w g) (C : Cx g W h0 L m s.heap) (hP : P ∈ W) (lt : Lt s.heap P pos qual) (hc : codeHdIn (K w.params) c P = true) (hcl : closureFor scope env = pure clos) (hge : env.globals = mainGlobals) (hcode : env.code = .ref c)
    (h : ∀ f c' ctv pm h' tk, Cx g W h0 L m h' → Keep2 [P] s.heap h' → Lt h' P pos qual → h'.CodeRec (.ref c') qual → h'.get? f = some (kla_obj name qual params body scope clos pm c' ctv) → Q (.ref f) { s with heap := h', toks := tk }) :
    wpAny (MM w) A (makeFunction name qual params (.expr body) scope env [] [] [] pos firstLine) Q E s := by
  have G' := G.keeps C.st.sub
  refine bc fun hGo => ?_
  obtain ⟨p, loose, mean, mg, mb, T⟩ := G'.T
  refine hGo ?_; clear hGo
  have CH : CodeHd s.heap c P := codeHd_of_K G'.K hc
  refine bc fun hGo => ?_
  obtain ⟨ps, eP, hps⟩ := lt
  refine hGo ?_; clear hGo
  have hgs := T.g
  refine bc fun hGo => ?_
  obtain ⟨bm, ob, b1, b2, b3, b4, b5, b6⟩ := T.bmain
  refine hGo ?_; clear hGo
  have hgP : mainGlobals ≠ P := fun q => by
    obtain ⟨o, es, ep, e, hd, _⟩ := hgs
    rw [q, eP] at e; cases e; cases hd
  have hbP : bm ≠ P := fun q => by rw [q, eP] at b3; cases b3; cases b4
  have hbG : bm ≠ mainGlobals := fun q => by
    obtain ⟨o, es, ep, e, hd, _⟩ := T.g
    rw [q, e] at b3; cases b3; rw [hd] at b6; cases b6
  have nS : ∀ o, s.heap.get? P = some o → ¬ Stab o := fun o e z => by
    rw [eP] at e; cases e
    obtain ⟨x, t, q⟩ := z
    rcases hps with rfl | ⟨c', rfl, _⟩
    · simp at q
    · simp [rawInt] at q
  have fin : ∀ (h' : Heap) (o : Obj), (∀ b o, b ≠ P → s.heap.get? b = some o → h'.get? b = some o) → (∃ o', h'.get? P = some o') → Keep2 [P] s.heap (h'.push o) := fun h' o kb lv =>
    ⟨fun b o' e n => Heap.get?_push_of_some _ (kb b o' (fun q => n (q ▸ .head _)) e), fun b o' e => by
      by_cases q : b = P
      · subst q; obtain ⟨o2, e2⟩ := lv; exact ⟨o2, Heap.get?_push_of_some _ e2⟩
      · exact ⟨o', Heap.get?_push_of_some _ (kb b o' q e)⟩, fun b o' z e => by
      by_cases q : b = P
      · subst q; exact absurd z (nS o' e)
      · exact Heap.get?_push_of_some _ (kb b o' q e)⟩
  have pW : ∀ x ∈ [P], x ∈ W := fun x q => by rw [List.mem_singleton.mp q]; exact hP
  rcases hps with rfl | ⟨c', rfl, hr⟩
  · refine kla_makeFunction (mg := mg) hcl hge hgs hcode CH eP (by trivial) (by rfl) hgP ⟨bm, ob, b1, b2, hbG, hbP, b3, b4, b5, b6⟩ fun c' ctv h' tk hx hge' hlt hrec htb => ?_
    have k := fin h' (kla_obj name qual params body scope clos ((mg "__name__").getD .none) c' ctv) (fun b o n e => hx b o n e) ⟨_, htb⟩
    refine h _ c' ctv _ _ tk (C.gs k pW) k ⟨_, Heap.get?_push_of_some _ htb, .inr ⟨c', by simp, ?_⟩⟩ ?_ (Heap.get?_push_size _ rfl)
    · exact hrec.push _
    · exact hrec.push _
  · refine kla_makeFunctionHit (mg := mg) (cv := .ref c') hcl hge hgs hcode CH eP (by trivial) (by simp [codeAmong, rawInt]) ⟨bm, ob, b1, b2, hbG, hbP, b3, b4, b5, b6⟩ fun ctv h' tk kb hsz => ?_
    have k := fin h' (kla_obj name qual params body scope clos ((mg "__name__").getD .none) c' ctv) (fun b o n e => kb b o e) ⟨_, kb _ _ eP⟩
    have hr' := (hr.keeps kb).push (kla_obj name qual params body scope clos ((mg "__name__").getD .none) c' ctv)
    exact h _ c' ctv _ _ tk (C.gs k pW) k ⟨_, Heap.get?_push_of_some _ (kb _ _ eP), .inr ⟨c', rfl, hr'⟩⟩ hr' (Heap.get?_push_size _ rfl)
end
theorem said28 : True := by
  k_with "m:cell" => first | assumption | exact IsCell.go ‹_› (by walk_at "cell") | fail "cell"
  trivial
section
variable {w : World} {A : Around} {E : Value → Shared → Prop} {s : Shared}
theorem new_list {vs : List Value} {Q : Value → Shared → Prop} (h : ∀ a h', s.heap.get? a = none → Keep2 [] s.heap h' → h'.get? a = some (listOf vs.toArray 0) → Q (.ref a) { s with heap := h' }) (hs : vs.length ≤ 100 := by exact Nat.le_of_ble_eq_true rfl) : wpAny (MM w) A (newList vs) Q E s := by
  simp only [newList]
  refine wpAny_newObj_type ?_ (by size_fits)
  exact h _ _ none_of_size (Keep2.push _) (Heap.get?_push_size _ rfl)
theorem tuple_of {l : Addr} {items : List Value} {Q : Value → Shared → Prop} (hl : s.heap.IsList l items.toArray) (hs : items.length ≤ sizeLine)
    (h : ∀ a h', Keep2 [] s.heap h' → h'.get? a = some (tupO items) → Q (.ref a) { s with heap := h' }) : wpAny (MM w) A (call (.type "tuple") [.ref l]) Q E s :=
  call_tuple_list hl (fun h' hk => h _ _ (Keep2.all fun b o e => Heap.get?_push_of_some _ (hk b o e)) (Heap.get?_push_size _ rfl)) (by simpa using hs)
end
theorem RD.sto2 {w : World} {h h' : Heap} {D tl L : Addr} {p : Nat} {nd : Value} (H : RD w h D tl p nd) (n : D ≠ L) (k : Keep2 [L] h h') : RD w h' D tl p nd := H.gs k (fun q => n (List.mem_singleton.mp q))
theorem ne_rd {w : World} {h : Heap} {a D tl : Addr} {p : Nat} {nd : Value} (n : h.get? a = none) (H : RD w h D tl p nd) : a ≠ D := fun q => by obtain ⟨o, e⟩ := H.live; rw [← q, n] at e; cases e
theorem Cx.ne {g : Heap} {W : List Addr} {h0 h : Heap} {L a : Addr} {m : PySem.Str → Option Value} (n : h.get? a = none) (C : Cx g W h0 L m h) : a ≠ L := (C.none_of n).2.2.2
theorem nin1 {a D : Addr} (n : a ≠ D) : a ∉ [D] := fun q => n (List.mem_singleton.mp q)
theorem list_at {h : Heap} {a : Addr} {vs : List Value} {n : Nat} (e : h.get? a = some (listOf vs.toArray n)) : h.IsList a vs.toArray := ⟨_, e, rfl, n, rfl⟩
theorem said29 : True := by
  k_with "m:newList" => (walk_plain_pass; (refine new_list ?_; intro aₘ hₘ nₘ kₘ eₘ; (first | have dnₘ := ne_rd nₘ ‹_› | skip); have lnₘ := Cx.ne nₘ ‹_›; have Cₘ := Cx.gs ‹_› kₘ; (first | have Hₘ := RD.gs ‹_› kₘ (by walk_at "sm") | skip); walk_at "more"; try dsimp only))
  k_with "m:storeName" => (walk_plain_pass; ((first | refine stK ‹_› ?_ (by kernel_rfl!) | refine store ‹_› ?_ (by kernel_rfl!) (by kernel_rfl!)); intro hₘ Cₘ kₘ; (first | have Hₘ := RD.sto2 ‹_› ‹_› kₘ | skip); walk_at "more"))
  k_with "m:nin" => first | exact List.not_mem_nil | exact nin1 ‹_› | fail "nin"
  k_with "m:kp" => first | assumption | exact Keep2.keep ‹_› _ _ (by walk_at "kp") (by walk_at "nin") | fail "kp"
  k_with "m:callWith type:tuple" => with_unfolding_all refine Pv.callWith_type1 ?_
  k_with "m:call type:tuple" => (walk_plain_pass; (refine tuple_of (list_at (by walk_at "kp")) (by simp [PySem.sizeLine_eq]) ?_; intro aₘ hₘ kₘ eₘ; have Cₘ := Cx.gs ‹_› kₘ; (first | have Hₘ := RD.gs ‹_› kₘ (by walk_at "sm") | skip); (first | have tₘ := At.tup eₘ (by walk_at "ats") | skip); walk_at "more"; try dsimp only))
  trivial
abbrev six : List PySem.Str := [ofString "(", ofString "+", ofString "-", ofString "*", ofString "/", ofString "**"]
def follOk (t : Tx) : Bool := !(t.1 == ofString "sign" && (six.any fun y => t.2 == y)) && !(t.1 == ofString "word" && (t.2 == ofString "OF" || t.2 == ofString "IN"))
structure Foll (ts : List Tx) (q : Nat) (t : Tx) : Prop where
  at_ : ts[q]? = some t
  ok : follOk t = true
theorem Foll.sg {ts : List Tx} {q : Nat} {t : Tx} (F : Foll ts q t) (y : PySem.Str) (hy : (six.contains y) = true) : (t.1 == ofString "sign" && t.2 == y) = false := by
  have h := F.ok
  unfold follOk at h
  simp only [Bool.and_eq_true, Bool.not_eq_true'] at h
  have h1 := h.1
  cases e : t.1 == ofString "sign" with
  | false => rfl
  | true =>
    rw [e, Bool.true_and, Bool.eq_false_iff] at h1
    rw [Bool.true_and, Bool.eq_false_iff]
    exact fun q => h1 (List.any_eq_true.mpr ⟨y, List.contains_iff_mem.mp hy, q⟩)
theorem Foll.wd {ts : List Tx} {q : Nat} {t : Tx} (F : Foll ts q t) (y : PySem.Str) (hy : y = ofString "OF" ∨ y = ofString "IN") : (t.1 == ofString "word" && t.2 == y) = false := by
  have h := F.ok
  unfold follOk at h
  simp only [Bool.and_eq_true, Bool.not_eq_true'] at h
  have h1 := h.2
  rcases hy with rfl | rfl
  · cases e : t.1 == ofString "word" with
    | false => rfl
    | true => rw [e, Bool.true_and] at h1; rw [Bool.true_and]; exact (Bool.or_eq_false_iff.mp h1).1
  · cases e : t.1 == ofString "word" with
    | false => rfl
    | true => rw [e, Bool.true_and] at h1; rw [Bool.true_and]; exact (Bool.or_eq_false_iff.mp h1).2
theorem beq_sw (x y : PySem.Str) : (x == y) = (y == x) := by rw [Bool.eq_iff_iff, beq_iff_eq, beq_iff_eq]; exact eq_comm
theorem Foll.any {ts : List Tx} {q : Nat} {t : Tx} (F : Foll ts q t) : ∀ (ys : List (PySem.Str × Tok)), (ys.all fun y => six.contains y.1) = true →
    (t.1 == ofString "sign" && (ys.map fun y => Value.str y.1 y.2).any (strIs t.2)) = false
  | [], _ => by show (_ && false) = false; rw [Bool.and_false]
  | y :: r, h => by
    have h2 := Bool.and_eq_true_iff.mp (show (six.contains y.1 && r.all fun y => six.contains y.1) = true from h)
    have a := F.sg y.1 h2.1
    have b := F.any r h2.2
    cases e : t.1 == ofString "sign" with
    | false => rfl
    | true =>
      rw [e, Bool.true_and] at a b
      rw [Bool.true_and, List.map_cons, List.any_cons, b, Bool.or_false]
      show (y.1 == t.2) = false
      rw [beq_sw]; exact a
theorem Foll.pm {ts : List Tx} {q : Nat} {t : Tx} (F : Foll ts q t) (u1 u2 : Tok) : (t.1 == ofString "sign" && [Value.str (ofString "+") u1, Value.str (ofString "-") u2].any (strIs t.2)) = false := F.any [(_, u1), (_, u2)] (by kernel_rfl)
theorem Foll.md {ts : List Tx} {q : Nat} {t : Tx} (F : Foll ts q t) (u1 u2 : Tok) : (t.1 == ofString "sign" && [Value.str (ofString "*") u1, Value.str (ofString "/") u2].any (strIs t.2)) = false := F.any [(_, u1), (_, u2)] (by kernel_rfl)
theorem Foll.pw {ts : List Tx} {q : Nat} {t : Tx} (F : Foll ts q t) (u1 : Tok) : (t.1 == ofString "sign" && [Value.str (ofString "**") u1].any (strIs t.2)) = false := F.any [(_, u1)] (by kernel_rfl)
theorem said30 : True := by
  k_with "m:sn" => first | exact Foll.pm ‹_› _ _ | exact Foll.md ‹_› _ _ | exact Foll.pw ‹_› _ | kernel_rfl! | fail "sn"
  k_with "m:tk" => first
      | exact (tok_of_some (Foll.at_ ‹_›)).trans (Foll.sg ‹_› _ (by kernel_rfl!))
      | exact (tok_of_some (Foll.at_ ‹_›)).trans (Foll.wd ‹_› _ (by first | exact .inl rfl | exact .inr rfl)) | fail "tk"
  trivial
abbrev refD (x : PySem.Str) : PyData := .tuple [.str (ofString "ref"), .str x, .tuple [], .tuple [], .none]
theorem C_read_ref {x : PySem.Str} {t1 : Tx} {rf : Value} {Q : Value → Shared → Prop} (G : Gd w g) (S : St g W s.heap) (R : RS w g r D tl nd toks ts) (H : RD w s.heap D tl p nd) (hD : D ∈ W) (hh : A.handled = none) (hd : A.depth + 5 < recursionLimit) (hp : p < 2 ^ 29) (ht : ts[p]? = some (wd x)) (hx : isNm x) (F : Foll ts (p + 1) t1)
    (h : ∀ a h' tk, Keep2 [D] s.heap h' → RD w h' D tl (p + 1) nd → At h' (.ref a) (refD x) → Q (.ref a) { s with heap := h', toks := tk }) : wpAny (MM w) A (call (.ref 160) [.ref r, rf]) Q E s := by
  w_top off
  have S1 : St g [D] s.heap := S.less (sub1 hD)
  refine enterN (W := [D]) [("reader", .ref r), ("read_expr", rf)] G S1 ((fn_at G S (f160 w)).trans rfl) (by kernel_rfl) (by walk_at "dq") (BindsTo.of_eq rfl) (locs rfl) ?_ (by rfl)
  intro L h₁ tk C nL k0
  have dL : D ≠ L := ne_of_live H.live nL
  replace H := H.up k0
  have hq := R.lt ht
  repeat walk1
  try dsimp only
  exact h _ _ _ (Cx.keep (by assumption) nL) (by assumption) (by walk_at "at")
theorem said31 : True := by
  k_with "m:call ref" => (walk_plain_pass; ((with_reducible show wpAny _ _ (call (Value.ref 160) _) _ _ _); refine C_read_ref ‹_› (Cx.st ‹_›) ‹_› ‹_› (by walk_at "sm") ‹_› (by walk_at "dp") (by walk_at "om") ‹_› ‹_› ‹_› ?_; intro _ _ _ kₘ Hₘ tₘ; have Cₘ := Cx.gs ‹_› kₘ; walk_at "more"; try dsimp only))
  trivial
abbrev numD (v : Nat) : PyData := .tuple [.str (ofString "number"), .tuple [.int (v : Int), .int 0]]
def Op (t : Tx) (d : PyData) : Prop := (∃ x, isNm x ∧ t = wd x ∧ d = refD x) ∨ (∃ x v, Dg x v ∧ t = nb x ∧ d = numD v)
theorem Op.ns {t : Tx} {d : PyData} (o : Op t d) (b : Bool) : (t.1 == ofString "sign" && b) = false := by
  rcases o with ⟨x, hx, rfl, rfl⟩ | ⟨x, v, hx, rfl, rfl⟩
  · kernel_rfl
  · kernel_rfl
theorem Op.np {t : Tx} {d : PyData} (o : Op t d) (ht : ts[p]? = some t) (y : PySem.Str) : tokIs ts p "sign" y = false := (tok_of_some ht).trans (o.ns _)
theorem said32 : True := by
  k_with "m:sn" => first | exact Op.ns ‹_› _ | fail "sn"
  k_with "m:tk" => first | exact Op.np ‹_› ‹_› _ | fail "tk"
  trivial
theorem C_read_operand {t t1 : Tx} {d : PyData} {rf : Value} {Q : Value → Shared → Prop} (G : Gd w g) (S : St g W s.heap) (R : RS w g r D tl nd toks ts) (H : RD w s.heap D tl p nd) (hD : D ∈ W) (hh : A.handled = none) (hd : A.depth + 6 < recursionLimit) (hp : p < 2 ^ 29) (ht : ts[p]? = some t) (o : Op t d) (F : Foll ts (p + 1) t1)
    (h : ∀ a h' tk, Keep2 [D] s.heap h' → RD w h' D tl (p + 1) nd → At h' (.ref a) (d) → Q (.ref a) { s with heap := h', toks := tk }) : wpAny (MM w) A (call (.ref 181) [.ref r, rf]) Q E s := by
  w_top off
  have S1 : St g [D] s.heap := S.less (sub1 hD)
  refine enterN (W := [D]) [("reader", .ref r), ("read_expr", rf)] G S1 ((fn_at G S (f181 w)).trans rfl) (by kernel_rfl) (by walk_at "dq") (BindsTo.of_eq rfl) (locs rfl) ?_ (by rfl)
  intro L h₁ tk C nL k0
  have dL : D ≠ L := ne_of_live H.live nL
  replace H := H.up k0
  have hq := R.lt ht
  rcases o with ⟨x, hx, rfl, rfl⟩ | ⟨x, v, hx, rfl, rfl⟩
  · repeat walk1
    try dsimp only
    exact h _ _ _ (Cx.keep (by assumption) nL) (by assumption) (by walk_at "at")
  · repeat walk1
    try dsimp only
    exact h _ _ _ (Cx.keep (by assumption) nL) (by assumption) (by walk_at "at")
theorem said33 : True := by
  k_with "m:call ref" => (walk_plain_pass; ((with_reducible show wpAny _ _ (call (Value.ref 181) _) _ _ _); refine C_read_operand ‹_› (Cx.st ‹_›) ‹_› ‹_› (by walk_at "sm") ‹_› (by walk_at "dp") (by walk_at "om") ‹_› ‹_› ‹_› ?_; intro _ _ _ kₘ Hₘ tₘ; have Cₘ := Cx.gs ‹_› kₘ; walk_at "more"; try dsimp only))
  trivial
theorem Lt.go2 {h h' : Heap} {P : Addr} {pos : Pos} {qual : PySem.Str} {X : List Addr} (k : Keep2 X h h') (x : Lt h P pos qual) (n : P ∉ X) : Lt h' P pos qual := x.go k n
theorem nin2 {D P : Addr} (n : D ≠ P) : P ∉ [D] := fun q => n (List.mem_singleton.mp q).symm
theorem said34 : True := by
  k_with "m:nin2" => first | exact List.not_mem_nil | exact nin2 ‹_› | fail "nin2"
  k_with "m:lt" => first | assumption | exact Lt.go2 ‹_› (by walk_at "lt") (by walk_at "nin2") | fail "lt"
  trivial
abbrev primPos : Pos := ⟨174, 36, 174, 76⟩
abbrev primQual : PySem.Str := ofString "read_primary" ++ ofString ".<locals>." ++ ofString "<lambda>"
theorem C_read_primary {t t1 : Tx} {d : PyData} {u : Tok} {Q : Value → Shared → Prop} (G : Gd w g) (S : St g W s.heap) (R : RS w g r D tl nd toks ts) (H : RD w s.heap D tl p nd) (hW : ∀ x ∈ ([D, 232] : List Addr), x ∈ W) (hh : A.handled = none) (hd : A.depth + 7 < recursionLimit) (hp : p < 2 ^ 29) (ht : ts[p]? = some t) (o : Op t d) (F : Foll ts (p + 1) t1) (lt : Lt s.heap 232 primPos primQual)
    (h : ∀ a h' tk, Keep2 [D, 232] s.heap h' → RD w h' D tl (p + 1) nd → Lt h' 232 primPos primQual → At h' (.ref a) d → Q (.ref a) { s with heap := h', toks := tk }) : wpAny (MM w) A (call (.ref 237) [.ref r, .int 0 u]) Q E s := by
  w_top off
  have S1 : St g [D, 232] s.heap := S.less hW
  refine wpAny_call ?_
  refine enterC (W := [D, 232]) [("reader", .ref r), ("depth", .int 0 u)] (fun L => [("depth", L + 1)]) G S1 ((fn_at G S (f237 w)).trans rfl) (by kernel_rfl) (by walk_at "dq") rfl (fun _ => rfl) (fun _ x hx => by
    rcases List.mem_cons.mp hx with rfl | hx
    · exact .inl rfl
    · rw [List.mem_singleton.mp hx]; exact .inr ⟨rfl, rfl⟩) ?_
  intro L h₁ tk C nL k0
  have dL : D ≠ L := ne_of_live H.live nL
  replace H := H.up k0
  have hq := R.lt ht
  intro cells
  refine noE ?_
  have hcell : h₁.IsCell (L + 1) (some (.int 0 u)) := cells (ofString "depth") _ rfl
  have lt1 : Lt h₁ 232 primPos primQual := lt.go (Keep2.all (W := []) k0) (by simp)
  have d232 : D ≠ 232 := lt1.ne_rd H
  repeat walk1
  try dsimp only
  refine kla_eval rfl ?_
  refine mk_lam (P := 232) (c := 236) (pos := primPos) (by assumption) (by assumption) (by simp) (by walk_at "lt") (by kernel_rfl) (by rfl) (by rfl) (by rfl) ?_
  intro f c' ctv pm h' tk C' k' lt' _ _
  have H' := RD.gs (by assumption) k' (nin1 d232)
  try dsimp only
  repeat walk1
  try dsimp only
  exact h _ _ _ (Cx.keep (by assumption) nL) (by assumption) (by walk_at "lt") (by walk_at "at")
theorem said35 : True := by
  k_with "m:call ref" => (walk_plain_pass; ((with_reducible show wpAny _ _ (call (Value.ref 237) _) _ _ _); refine C_read_primary ‹_› (Cx.st ‹_›) ‹_› ‹_› (by walk_at "sm") ‹_› (by walk_at "dp") (by walk_at "om") ‹_› ‹_› ‹_› (by walk_at "lt") ?_; intro _ _ _ kₘ Hₘ ltₘ tₘ; have Cₘ := Cx.gs ‹_› kₘ; walk_at "more"; try dsimp only))
  trivial
theorem C_read_power {t t1 : Tx} {d : PyData} {u : Tok} {Q : Value → Shared → Prop} (G : Gd w g) (S : St g W s.heap) (R : RS w g r D tl nd toks ts) (H : RD w s.heap D tl p nd) (hW : ∀ x ∈ ([D, 232] : List Addr), x ∈ W) (hh : A.handled = none) (hd : A.depth + 8 < recursionLimit) (hp : p < 2 ^ 29) (ht : ts[p]? = some t) (o : Op t d) (F : Foll ts (p + 1) t1) (lt : Lt s.heap 232 primPos primQual)
    (h : ∀ a h' tk, Keep2 [D, 232] s.heap h' → RD w h' D tl (p + 1) nd → Lt h' 232 primPos primQual → At h' (.ref a) d → Q (.ref a) { s with heap := h', toks := tk }) : wpAny (MM w) A (call (.ref 230) [.ref r, .int 0 u]) Q E s := by
  w_top off
  have S1 : St g [D, 232] s.heap := S.less hW
  refine enterN (W := [D, 232]) [("reader", .ref r), ("depth", .int 0 u)] G S1 ((fn_at G S (f230 w)).trans rfl) (by kernel_rfl) (by walk_at "dq") (BindsTo.of_eq rfl) (locs rfl) ?_ (by rfl)
  intro L h₁ tk C nL k0
  have dL : D ≠ L := ne_of_live H.live nL
  replace H := H.up k0
  have hq := R.lt ht
  have f1 := F.at_
  have lt1 : Lt h₁ 232 primPos primQual := lt.go (Keep2.all (W := []) k0) (by simp)
  have d232 : D ≠ 232 := lt1.ne_rd H
  have l232 : L ≠ 232 := lt1.ne_ns C.ns
  repeat walk1
  try dsimp only
  exact h _ _ _ (Cx.keep (by assumption) nL) (by assumption) (by walk_at "lt") (by walk_at "at")
theorem said36 : True := by
  k_with "m:call ref" => (walk_plain_pass; ((with_reducible show wpAny _ _ (call (Value.ref 230) _) _ _ _); refine C_read_power ‹_› (Cx.st ‹_›) ‹_› ‹_› (by walk_at "sm") ‹_› (by walk_at "dp") (by walk_at "om") ‹_› ‹_› ‹_› (by walk_at "lt") ?_; intro _ _ _ kₘ Hₘ ltₘ tₘ; have Cₘ := Cx.gs ‹_› kₘ; walk_at "more"; try dsimp only))
  trivial
theorem C_read_factor {t t1 : Tx} {d : PyData} {u : Tok} {Q : Value → Shared → Prop} (G : Gd w g) (S : St g W s.heap) (R : RS w g r D tl nd toks ts) (H : RD w s.heap D tl p nd) (hW : ∀ x ∈ ([D, 232] : List Addr), x ∈ W) (hh : A.handled = none) (hd : A.depth + 9 < recursionLimit) (hp : p < 2 ^ 29) (ht : ts[p]? = some t) (o : Op t d) (F : Foll ts (p + 1) t1) (lt : Lt s.heap 232 primPos primQual)
    (h : ∀ a h' tk, Keep2 [D, 232] s.heap h' → RD w h' D tl (p + 1) nd → Lt h' 232 primPos primQual → At h' (.ref a) d → Q (.ref a) { s with heap := h', toks := tk }) : wpAny (MM w) A (call (.ref 216) [.ref r, .int 0 u]) Q E s := by
  w_top off
  have S1 : St g [D, 232] s.heap := S.less hW
  refine enterN (W := [D, 232]) [("reader", .ref r), ("depth", .int 0 u)] G S1 ((fn_at G S (f216 w)).trans rfl) (by kernel_rfl) (by walk_at "dq") (BindsTo.of_eq rfl) (locs rfl) ?_ (by rfl)
  intro L h₁ tk C nL k0
  have dL : D ≠ L := ne_of_live H.live nL
  replace H := H.up k0
  have hq := R.lt ht
  have f1 := F.at_
  have lt1 : Lt h₁ 232 primPos primQual := lt.go (Keep2.all (W := []) k0) (by simp)
  have d232 : D ≠ 232 := lt1.ne_rd H
  have l232 : L ≠ 232 := lt1.ne_ns C.ns
  repeat walk1
  try dsimp only
  exact h _ _ _ (Cx.keep (by assumption) nL) (by assumption) (by walk_at "lt") (by walk_at "at")
theorem said37 : True := by
  k_with "m:call ref" => (walk_plain_pass; ((with_reducible show wpAny _ _ (call (Value.ref 216) _) _ _ _); refine C_read_factor ‹_› (Cx.st ‹_›) ‹_› ‹_› (by walk_at "sm") ‹_› (by walk_at "dp") (by walk_at "om") ‹_› ‹_› ‹_› (by walk_at "lt") ?_; intro _ _ _ kₘ Hₘ ltₘ tₘ; have Cₘ := Cx.gs ‹_› kₘ; walk_at "more"; try dsimp only))
  trivial
theorem C_read_product {t t1 : Tx} {d : PyData} {u : Tok} {Q : Value → Shared → Prop} (G : Gd w g) (S : St g W s.heap) (R : RS w g r D tl nd toks ts) (H : RD w s.heap D tl p nd) (hW : ∀ x ∈ ([D, 232] : List Addr), x ∈ W) (hh : A.handled = none) (hd : A.depth + 10 < recursionLimit) (hp : p < 2 ^ 29) (ht : ts[p]? = some t) (o : Op t d) (F : Foll ts (p + 1) t1) (lt : Lt s.heap 232 primPos primQual)
    (h : ∀ a h' tk, Keep2 [D, 232] s.heap h' → RD w h' D tl (p + 1) nd → Lt h' 232 primPos primQual → At h' (.ref a) d → Q (.ref a) { s with heap := h', toks := tk }) : wpAny (MM w) A (call (.ref 209) [.ref r, .int 0 u]) Q E s := by
  w_top off
  have S1 : St g [D, 232] s.heap := S.less hW
  refine enterN (W := [D, 232]) [("reader", .ref r), ("depth", .int 0 u)] G S1 ((fn_at G S (f209 w)).trans rfl) (by kernel_rfl) (by walk_at "dq") (BindsTo.of_eq rfl) (locs rfl) ?_ (by rfl)
  intro L h₁ tk C nL k0
  have dL : D ≠ L := ne_of_live H.live nL
  replace H := H.up k0
  have hq := R.lt ht
  have f1 := F.at_
  have lt1 : Lt h₁ 232 primPos primQual := lt.go (Keep2.all (W := []) k0) (by simp)
  have d232 : D ≠ 232 := lt1.ne_rd H
  have l232 : L ≠ 232 := lt1.ne_ns C.ns
  repeat walk1
  try dsimp only
  exact h _ _ _ (Cx.keep (by assumption) nL) (by assumption) (by walk_at "lt") (by walk_at "at")
theorem said38 : True := by
  k_with "m:call ref" => (walk_plain_pass; ((with_reducible show wpAny _ _ (call (Value.ref 209) _) _ _ _); refine C_read_product ‹_› (Cx.st ‹_›) ‹_› ‹_› (by walk_at "sm") ‹_› (by walk_at "dp") (by walk_at "om") ‹_› ‹_› ‹_› (by walk_at "lt") ?_; intro _ _ _ kₘ Hₘ ltₘ tₘ; have Cₘ := Cx.gs ‹_› kₘ; walk_at "more"; try dsimp only))
  trivial
theorem C_read_sum {t t1 : Tx} {d : PyData} {u : Tok} {Q : Value → Shared → Prop} (G : Gd w g) (S : St g W s.heap) (R : RS w g r D tl nd toks ts) (H : RD w s.heap D tl p nd) (hW : ∀ x ∈ ([D, 232] : List Addr), x ∈ W) (hh : A.handled = none) (hd : A.depth + 11 < recursionLimit) (hp : p < 2 ^ 29) (ht : ts[p]? = some t) (o : Op t d) (F : Foll ts (p + 1) t1) (lt : Lt s.heap 232 primPos primQual)
    (h : ∀ a h' tk, Keep2 [D, 232] s.heap h' → RD w h' D tl (p + 1) nd → Lt h' 232 primPos primQual → At h' (.ref a) d → Q (.ref a) { s with heap := h', toks := tk }) : wpAny (MM w) A (call (.ref 202) [.ref r, .int 0 u]) Q E s := by
  w_top off
  have S1 : St g [D, 232] s.heap := S.less hW
  refine enterN (W := [D, 232]) [("reader", .ref r), ("depth", .int 0 u)] G S1 ((fn_at G S (f202 w)).trans rfl) (by kernel_rfl) (by walk_at "dq") (BindsTo.of_eq rfl) (locs rfl) ?_ (by rfl)
  intro L h₁ tk C nL k0
  have dL : D ≠ L := ne_of_live H.live nL
  replace H := H.up k0
  have hq := R.lt ht
  have f1 := F.at_
  have lt1 : Lt h₁ 232 primPos primQual := lt.go (Keep2.all (W := []) k0) (by simp)
  have d232 : D ≠ 232 := lt1.ne_rd H
  have l232 : L ≠ 232 := lt1.ne_ns C.ns
  repeat walk1
  try dsimp only
  exact h _ _ _ (Cx.keep (by assumption) nL) (by assumption) (by walk_at "lt") (by walk_at "at")
theorem said39 : True := by
  k_with "m:call ref" => (walk_plain_pass; ((with_reducible show wpAny _ _ (call (Value.ref 202) _) _ _ _); refine C_read_sum ‹_› (Cx.st ‹_›) ‹_› ‹_› (by walk_at "sm") ‹_› (by walk_at "dp") (by walk_at "om") ‹_› ‹_› ‹_› (by walk_at "lt") ?_; intro _ _ _ kₘ Hₘ ltₘ tₘ; have Cₘ := Cx.gs ‹_› kₘ; walk_at "more"; try dsimp only))
  trivial
theorem C_read_expression {t t1 : Tx} {d : PyData} {Q : Value → Shared → Prop} (G : Gd w g) (S : St g W s.heap) (R : RS w g r D tl nd toks ts) (H : RD w s.heap D tl p nd) (hW : ∀ x ∈ ([D, 232] : List Addr), x ∈ W) (hh : A.handled = none) (hd : A.depth + 12 < recursionLimit) (hp : p < 2 ^ 29) (ht : ts[p]? = some t) (o : Op t d) (F : Foll ts (p + 1) t1) (lt : Lt s.heap 232 primPos primQual)
    (h : ∀ a h' tk, Keep2 [D, 232] s.heap h' → RD w h' D tl (p + 1) nd → Lt h' 232 primPos primQual → At h' (.ref a) d → Q (.ref a) { s with heap := h', toks := tk }) : wpAny (MM w) A (call (.ref 188) [.ref r]) Q E s := by
  w_top off
  have S1 : St g [D, 232] s.heap := S.less hW
  refine enterN (W := [D, 232]) [("reader", .ref r)] G S1 ((fn_at G S (f188 w)).trans rfl) (by kernel_rfl) (by walk_at "dq") (BindsTo.of_eq rfl) (locs rfl) ?_ (by rfl)
  intro L h₁ tk C nL k0
  have dL : D ≠ L := ne_of_live H.live nL
  replace H := H.up k0
  have hq := R.lt ht
  have f1 := F.at_
  have lt1 : Lt h₁ 232 primPos primQual := lt.go (Keep2.all (W := []) k0) (by simp)
  have d232 : D ≠ 232 := lt1.ne_rd H
  have l232 : L ≠ 232 := lt1.ne_ns C.ns
  repeat walk1
  try dsimp only
  exact h _ _ _ (Cx.keep (by assumption) nL) (by assumption) (by walk_at "lt") (by walk_at "at")
theorem said40 : True := by
  k_with "m:call ref" => (walk_plain_pass; ((with_reducible show wpAny _ _ (call (Value.ref 188) _) _ _ _); refine C_read_expression ‹_› (Cx.st ‹_›) ‹_› ‹_› (by walk_at "sm") ‹_› (by walk_at "dp") (by walk_at "om") ‹_› ‹_› ‹_› (by walk_at "lt") ?_; intro _ _ _ kₘ Hₘ ltₘ tₘ; have Cₘ := Cx.gs ‹_› kₘ; walk_at "more"; try dsimp only))
  trivial
def wordOf (t : Tx) : PySem.Str := if (t.1 == ofString "word") = true then t.2 else ofString ""
def relW (x : PySem.Str) : Bool := ofString "GREATER" == x || (ofString "LESS" == x || ofString "EQUAL" == x)
def sgnW (x : PySem.Str) : Bool := ofString "POSITIVE" == x || (ofString "NEGATIVE" == x || (ofString "ZERO" == x || (ofString "ZEROS" == x || ofString "ZEROES" == x)))
def clsW (x : PySem.Str) : Bool := ofString "NUMERIC" == x || (ofString "ALPHABETIC" == x || (ofString "ALPHABETIC-LOWER" == x || ofString "ALPHABETIC-UPPER" == x))
def relS (x : PySem.Str) : Bool := ofString "=" == x || (ofString "<" == x || (ofString ">" == x || (ofString "<=" == x || ofString ">=" == x)))
def relAt (t : Tx) : Bool := (t.1 == ofString "sign" && relS t.2) || relW (wordOf t)
theorem in241 (w : World) (x : PySem.Str) : ∃ r, nsIn (K w.params) 241 x = some r ∧ r.isSome = relW x := by
  unfold nsIn
  rw [(by kernel_rfl : (K w.params).lookup 241 = some (o241 w.params))]
  unfold o241 relW
  simp only [List.toList_toArray, List.find?_cons, List.find?_nil, Value.isStr]
  cases ofString "GREATER" == x <;> cases ofString "LESS" == x <;> cases ofString "EQUAL" == x <;> first | exact ⟨_, rfl, rfl⟩ | (refine ⟨none, ?_, rfl⟩; rfl)
theorem in240 (w : World) (x : PySem.Str) : ∃ r, nsIn (K w.params) 240 x = some r ∧ r.isSome = sgnW x := by
  unfold nsIn
  rw [(by kernel_rfl : (K w.params).lookup 240 = some (o240 w.params))]
  unfold o240 sgnW
  simp only [List.toList_toArray, List.find?_cons, List.find?_nil, Value.isStr]
  cases ofString "POSITIVE" == x <;> cases ofString "NEGATIVE" == x <;> cases ofString "ZERO" == x <;> cases ofString "ZEROS" == x <;> cases ofString "ZEROES" == x <;> first | exact ⟨_, rfl, rfl⟩ | (refine ⟨none, ?_, rfl⟩; rfl)
theorem in_241 {x : PySem.Str} {t : Tok} {b : Bool} {Q : Value → Shared → Prop} (G : Gd w g) (S : St g W s.heap) (hb : relW x = b) (h : Q (.bool b) { s with toks := s.toks + 1 }) : wpAny (MM w) A (compareOp .In (.str x t) (.ref 241)) Q E s := let ⟨r, e1, e2⟩ := in241 w x
  let ⟨es, n, hl, hk⟩ := k241 w
  in_K G S hl hk e1 (by decide) (e2.trans hb) h
theorem in_240 {x : PySem.Str} {t : Tok} {b : Bool} {Q : Value → Shared → Prop} (G : Gd w g) (S : St g W s.heap) (hb : sgnW x = b) (h : Q (.bool b) { s with toks := s.toks + 1 }) : wpAny (MM w) A (compareOp .In (.str x t) (.ref 240)) Q E s := let ⟨r, e1, e2⟩ := in240 w x
  let ⟨es, n, hl, hk⟩ := k240 w
  in_K G S hl hk e1 (by decide) (e2.trans hb) h
theorem notIn_240 {x : PySem.Str} {t : Tok} {b : Bool} {Q : Value → Shared → Prop} (G : Gd w g) (S : St g W s.heap) (hb : (!sgnW x) = b) (h : Q (.bool b) { s with toks := s.toks + 1 }) : wpAny (MM w) A (compareOp .NotIn (.str x t) (.ref 240)) Q E s := let ⟨r, e1, e2⟩ := in240 w x
  let ⟨es, n, hl, hk⟩ := k240 w
  notIn_K G S hl hk e1 (by decide) (by rw [e2]; exact hb) h
theorem in_242 {x : PySem.Str} {t : Tok} {b : Bool} {Q : Value → Shared → Prop} (G : Gd w g) (S : St g W s.heap) (hb : relS x = b) (h : Q (.bool b) s) : wpAny (MM w) A (compareOp .In (.str x t) (.ref 242)) Q E s :=
  in_strs (a := 242) ((fn_at G S (f242 w)).trans rfl) (by rfl) (by rw [← hb]; simp only [List.any_cons, List.any_nil, strIs, Bool.or_false]; rfl) h
theorem in_239 {x : PySem.Str} {t : Tok} {b : Bool} {Q : Value → Shared → Prop} (G : Gd w g) (S : St g W s.heap) (hb : clsW x = b) (h : Q (.bool b) s) : wpAny (MM w) A (compareOp .In (.str x t) (.ref 239)) Q E s :=
  in_strs (a := 239) ((fn_at G S (f239 w)).trans rfl) (by rfl) (by rw [← hb]; simp only [List.any_cons, List.any_nil, strIs, Bool.or_false]; rfl) h
theorem notIn_239 {x : PySem.Str} {t : Tok} {b : Bool} {Q : Value → Shared → Prop} (G : Gd w g) (S : St g W s.heap) (hb : (!clsW x) = b) (h : Q (.bool b) s) : wpAny (MM w) A (compareOp .NotIn (.str x t) (.ref 239)) Q E s :=
  notIn_strs (a := 239) ((fn_at G S (f239 w)).trans rfl) (by rfl) (by rw [← hb]; simp only [List.any_cons, List.any_nil, strIs, Bool.or_false]; rfl) h
theorem said41 : True := by
  k_with "m:compareOp In str ref" => (walk_plain_pass; (first
      | refine in_241 ‹_› (Cx.st ‹_›) (by first | assumption | rfl) ?_
      | refine in_240 ‹_› (Cx.st ‹_›) (by first | assumption | rfl) ?_
      | refine in_242 ‹_› (Cx.st ‹_›) (by first | assumption | rfl) ?_
      | refine in_239 ‹_› (Cx.st ‹_›) (by first | assumption | rfl) ?_))
  k_with "m:compareOp NotIn str ref" => (walk_plain_pass; (first
      | refine notIn_240 ‹_› (Cx.st ‹_›) (by first | assumption | rfl) ?_
      | refine notIn_239 ‹_› (Cx.st ‹_›) (by first | assumption | rfl) ?_))
  trivial
theorem C_word_here {k : Nat} {args : List Value} {t : Tx} {Q : Value → Shared → Prop} (G : Gd w g) (S : St g W s.heap) (R : RS w g r D tl nd toks ts) (H : RD w s.heap D tl p nd) (hd : A.depth + 1 < recursionLimit) (hp : p < 2 ^ 29) (ha : (∃ t, args = [.ref r, .int k t]) ∨ (args = [.ref r] ∧ k = 0)) (hk : k < 2 ^ 29) (ht : ts[p + k]? = some t)
    (h : ∀ u h' tk, Keep2 [] s.heap h' → Q (.str (wordOf t) u) { s with heap := h', toks := tk }) : wpAny (MM w) A (call (.ref 250) args) Q E s := by
  w_top off
  have S1 : St g [] s.heap := S.none
  refine wpAny_call ?_
  obtain ⟨t', hB⟩ : ∃ t, BindsTo s (fdOf (o250 w.params)) ⟨args, []⟩ [("reader", .ref r), ("ahead", .int k t)] := by
    rcases ha with ⟨t, rfl⟩ | ⟨rfl, rfl⟩
    · exact ⟨t, BindsTo.of_defaults (T := 243) rfl (fn_at G S (f243 w)) rfl rfl rfl⟩
    · exact ⟨_, BindsTo.of_defaults (T := 243) rfl (fn_at G S (f243 w)) rfl rfl rfl⟩
  refine enter2 (W := []) [("reader", .ref r), ("ahead", .int k t')] G S1 ((fn_at G S (f250 w)).trans rfl) (by kernel_rfl) (by walk_at "dq") hB (locs rfl) ?_ (by decide)
  intro L h₁ tk C nL k0
  refine noE ?_
  have dL : D ≠ L := ne_of_live H.live nL
  replace H := H.up k0
  have hq := R.lt ht
  cases hw : t.1 == ofString "word" with
  | false =>
    rw [show wordOf t = ofString "" by unfold wordOf; rw [hw]; rfl] at h
    repeat walk1
    try dsimp only
    exact h _ _ _ (Cx.keep (by assumption) nL)
  | true =>
    rw [show wordOf t = t.2 by unfold wordOf; rw [hw]; rfl] at h
    repeat walk1
    try dsimp only
    exact h _ _ _ (Cx.keep (by assumption) nL)
theorem said42 : True := by
  k_with "m:carry3" => (intro _ _ _ kₘ; have Cₘ := Cx.gs ‹_› kₘ; (first | have Hₘ := RD.gs ‹_› kₘ (by walk_at "sm") | skip); walk_at "more"; try dsimp only)
  k_with "m:call ref" => (walk_plain_pass; ((with_reducible show wpAny _ _ (call (Value.ref 250) _) _ _ _); refine C_word_here ‹_› (Cx.st ‹_›) ‹_› ‹_› (by walk_at "dp") (by walk_at "om") (by walk_at "arg") (by walk_at "om") ‹_› ?_; walk_at "carry3"))
  trivial
theorem C_is_relation_at {k : Nat} {u : Tok} {t : Tx} {b : Bool} {Q : Value → Shared → Prop} (G : Gd w g) (S : St g W s.heap) (R : RS w g r D tl nd toks ts) (H : RD w s.heap D tl p nd) (hd : A.depth + 2 < recursionLimit) (hp : p < 2 ^ 29) (hk : k < 2 ^ 29) (ht : ts[p + k]? = some t) (hb : relAt t = b)
    (h : ∀ h' tk, Keep2 [] s.heap h' → Q (.bool b) { s with heap := h', toks := tk }) : wpAny (MM w) A (call (.ref 257) [.ref r, .int k u]) Q E s := by
  w_top off
  have S1 : St g [] s.heap := S.none
  refine enterN (W := []) [("reader", .ref r), ("ahead", .int k u)] G S1 ((fn_at G S (f257 w)).trans rfl) (by kernel_rfl) (by walk_at "dq") (BindsTo.of_eq rfl) (locs rfl) ?_ (by rfl)
  intro L h₁ tk C nL k0
  have dL : D ≠ L := ne_of_live H.live nL
  replace H := H.up k0
  have hq := R.lt ht
  have hb2 := hb
  unfold relAt at hb2
  cases hs : t.1 == ofString "sign" with
  | false =>
    rw [hs, Bool.false_and, Bool.false_or] at hb2
    repeat walk1
    try dsimp only
    exact h _ _ (Cx.keep (by assumption) nL)
  | true =>
    rw [hs, Bool.true_and] at hb2
    cases hr : relS t.2 with
    | true =>
      rw [hr, Bool.true_or] at hb2
      subst hb2
      repeat walk1
      try dsimp only
      exact h _ _ (Cx.keep (by assumption) nL)
    | false =>
      rw [hr, Bool.false_or] at hb2
      repeat walk1
      try dsimp only
      exact h _ _ (Cx.keep (by assumption) nL)
theorem said43 : True := by
  k_with "m:call ref" => (walk_plain_pass; ((with_reducible show wpAny _ _ (call (Value.ref 257) _) _ _ _); refine C_is_relation_at ‹_› (Cx.st ‹_›) ‹_› ‹_› (by walk_at "dp") (by walk_at "om") (by walk_at "om") ‹_› ‹_› ?_; walk_at "carry"))
  trivial
def Place (ts : List Tx) (p k : Nat) : Prop := ∃ t0, ts[p]? = some t0 ∧
  (((wordOf t0 == ofString "IS") = false ∧ (wordOf t0 == ofString "NOT") = false ∧ k = 0) ∨ ((wordOf t0 == ofString "IS") = false ∧ (wordOf t0 == ofString "NOT") = true ∧ k = 1) ∨
   ((wordOf t0 == ofString "IS") = true ∧ ∃ t1, ts[p + 1]? = some t1 ∧ (wordOf t1 == ofString "NOT") = false ∧ k = 1))
theorem C_place_of_word {k : Nat} {Q : Value → Shared → Prop} (G : Gd w g) (S : St g W s.heap) (R : RS w g r D tl nd toks ts) (H : RD w s.heap D tl p nd) (hd : A.depth + 2 < recursionLimit) (hp : p < 2 ^ 29) (pl : Place ts p k)
    (h : ∀ u h' tk, Keep2 [] s.heap h' → Q (.int (k : Int) u) { s with heap := h', toks := tk }) : wpAny (MM w) A (call (.ref 264) [.ref r]) Q E s := by
  w_top off
  have S1 : St g [] s.heap := S.none
  refine enterN (W := []) [("reader", .ref r)] G S1 ((fn_at G S (f264 w)).trans rfl) (by kernel_rfl) (by walk_at "dq") (BindsTo.of_eq rfl) (locs rfl) ?_ (by rfl)
  intro L h₁ tk C nL k0
  have dL : D ≠ L := ne_of_live H.live nL
  replace H := H.up k0
  obtain ⟨t0, e0, (⟨a, b, rfl⟩ | ⟨a, b, rfl⟩ | ⟨a, t1, e1, b, rfl⟩)⟩ := pl
  · repeat walk1
    refine C_word_here (k := 0) (by assumption) (Cx.st (by assumption)) (by assumption) (by assumption) (by walk_at "dp") (by omega) (by walk_at "arg") (by omega) e0 ?_; walk_at "carry3"
    repeat walk1
    try dsimp only
    exact h _ _ _ (Cx.keep (by assumption) nL)
  · repeat walk1
    refine C_word_here (k := 0) (by assumption) (Cx.st (by assumption)) (by assumption) (by assumption) (by walk_at "dp") (by omega) (by walk_at "arg") (by omega) e0 ?_; walk_at "carry3"
    repeat walk1
    try dsimp only
    exact h _ _ _ (Cx.keep (by assumption) nL)
  · repeat walk1
    refine C_word_here (k := 1) (by assumption) (Cx.st (by assumption)) (by assumption) (by assumption) (by walk_at "dp") (by omega) (by walk_at "arg") (by omega) e1 ?_; walk_at "carry3"
    repeat walk1
    try dsimp only
    exact h _ _ _ (Cx.keep (by assumption) nL)
theorem said44 : True := by
  k_with "m:call ref" => (walk_plain_pass; ((with_reducible show wpAny _ _ (call (Value.ref 264) _) _ _ _); refine C_place_of_word ‹_› (Cx.st ‹_›) ‹_› ‹_› (by walk_at "dp") (by walk_at "om") ‹_› ?_; walk_at "carry3"))
  trivial
theorem C_is_bare {k : Nat} {t : Tx} {b : Bool} {Q : Value → Shared → Prop} (G : Gd w g) (S : St g W s.heap) (R : RS w g r D tl nd toks ts) (H : RD w s.heap D tl p nd) (hd : A.depth + 3 < recursionLimit) (hp : p < 2 ^ 29) (pl : Place ts p k) (hk : k < 2) (ht : ts[p + k]? = some t) (hb : relAt t = b)
    (h : ∀ h' tk, Keep2 [] s.heap h' → Q (.bool b) { s with heap := h', toks := tk }) : wpAny (MM w) A (call (.ref 278) [.ref r]) Q E s := by
  w_top off
  have S1 : St g [] s.heap := S.none
  refine enterN (W := []) [("reader", .ref r)] G S1 ((fn_at G S (f278 w)).trans rfl) (by kernel_rfl) (by walk_at "dq") (BindsTo.of_eq rfl) (locs rfl) ?_ (by rfl)
  intro L h₁ tk C nL k0
  have dL : D ≠ L := ne_of_live H.live nL
  replace H := H.up k0
  have hq := R.lt ht
  repeat walk1
  try dsimp only
  exact h _ _ (Cx.keep (by assumption) nL)
theorem said45 : True := by
  k_with "m:call ref" => (walk_plain_pass; ((with_reducible show wpAny _ _ (call (Value.ref 278) _) _ _ _); refine C_is_bare ‹_› (Cx.st ‹_›) ‹_› ‹_› (by walk_at "dp") (by walk_at "om") ‹_› (by walk_at "om") ‹_› ‹_› ?_; walk_at "carry"))
  trivial
theorem C_is_predicate {k : Nat} {t : Tx} {Q : Value → Shared → Prop} (G : Gd w g) (S : St g W s.heap) (R : RS w g r D tl nd toks ts) (H : RD w s.heap D tl p nd) (hd : A.depth + 3 < recursionLimit) (hp : p < 2 ^ 29) (pl : Place ts p k) (hk : k < 2) (ht : ts[p + k]? = some t) (hb : relAt t = true ∨ (relAt t = false ∧ clsW (wordOf t) = true) ∨ (relAt t = false ∧ clsW (wordOf t) = false ∧ sgnW (wordOf t) = true))
    (h : ∀ h' tk, Keep2 [] s.heap h' → Q (.bool true) { s with heap := h', toks := tk }) : wpAny (MM w) A (call (.ref 271) [.ref r]) Q E s := by
  w_top off
  have S1 : St g [] s.heap := S.none
  refine enterN (W := []) [("reader", .ref r)] G S1 ((fn_at G S (f271 w)).trans rfl) (by kernel_rfl) (by walk_at "dq") (BindsTo.of_eq rfl) (locs rfl) ?_ (by rfl)
  intro L h₁ tk C nL k0
  have dL : D ≠ L := ne_of_live H.live nL
  replace H := H.up k0
  have hq := R.lt ht
  rcases hb with e1 | ⟨e1, e2⟩ | ⟨e1, e2, e3⟩
  all_goals (
    repeat walk1
    try dsimp only
    exact h _ _ (Cx.keep (by assumption) nL))
theorem said46 : True := by
  k_with "m:call ref" => (walk_plain_pass; ((with_reducible show wpAny _ _ (call (Value.ref 271) _) _ _ _); refine C_is_predicate ‹_› (Cx.st ‹_›) ‹_› ‹_› (by walk_at "dp") (by walk_at "om") ‹_› (by walk_at "om") ‹_› ‹_› ?_; walk_at "carry"))
  trivial
section
variable {w : World} {A : Around} {E : Value → Shared → Prop} {s : Shared} {g : Heap} {W : List Addr} {h0 : Heap} {L : Addr} {m : PySem.Str → Option Value} {R : Result → Shared → Prop}
theorem make_own {C fI : Addr} {rest : List Value} (G : Gd w g) (S : St g W s.heap) (hm : makesIn (K w.params) C = true) (hi : findIn (K w.params) (.ref C) "__init__" = some (some (.ref fI))) (hf : typeIn (K w.params) (.ref fI) = some (.type "function"))
    (h : ∀ x dx h', Keep2 [] s.heap h' → s.heap.get? x = none → s.heap.get? dx = none → x ≠ dx → h'.get? x = some (instObj C dx) → h'.get? dx = some (dictOf [] 0) →
      codeAny (MM w) (A.under (.builtin "type.__call__" ⟨.ref C :: rest, []⟩)) (.call (.ref fI) ⟨.ref x :: rest, []⟩) (InitBack x R) { s with heap := h' }) :
    codeAny (MM w) A (.call (.ref C) ⟨rest, []⟩) R s := by
  refine bc fun hGo => ?_
  obtain ⟨hh, gg, d, t, os⟩ := s
  refine hGo ?_; clear hGo
  have X := (G.keeps S.sub).K
  refine make_core (makes_of X hm) (looks_findIn X hi) (fun self => bind_fn X self hf) (.inl rfl) (h (hh.objs.size + 1) hh.objs.size _ ((Keep2.push _).trans (Keep2.push _)) ?_ none_of_size (Nat.succ_ne_self _) ?_ ?_)
  · have := none_of_size (h := hh.push emptyDict)
    rw [Heap.size_push] at this
    cases q : hh.get? (hh.objs.size + 1) with
    | none => rfl
    | some o => exact absurd (Nat.lt_trans (Nat.lt_succ_self _) (Heap.lt_size q)) (Nat.lt_irrefl _)
  · have := Heap.get?_push_size (hh.push emptyDict) (o := instObj C hh.objs.size) rfl
    rwa [Heap.size_push] at this
  · exact Heap.get?_push_of_some _ (Heap.get?_push_size _ rfl)
def cdict (w : World) (r : Addr) (nm : Value) (dp : Nat) (last : Value) (t0 t1 t2 t3 u : Tok) : List DictEntry :=
  [⟨kh w "reader", .str "reader" t0, .ref r⟩, ⟨kh w "is_named", .str "is_named" t1, nm⟩, ⟨kh w "depth", .str "depth" t2, .int dp u⟩, ⟨kh w "last", .str "last" t3, last⟩]
def CD (w : World) (h : Heap) (Dc r : Addr) (nm : Value) (dp : Nat) (last : Value) : Prop := ∃ t0 t1 t2 t3 u n, h.get? Dc = some (dictOf (cdict w r nm dp last t0 t1 t2 t3 u) n)
theorem CD.go2 {h h' : Heap} {Dc r : Addr} {nm last : Value} {dp : Nat} {X : List Addr} (k : Keep2 X h h') (x : CD w h Dc r nm dp last) (n : Dc ∉ X) : CD w h' Dc r nm dp last := by
  obtain ⟨a, b, c, d, e, f, y⟩ := x
  exact ⟨a, b, c, d, e, f, k.keep _ _ y n⟩
theorem CD.live {h : Heap} {Dc r : Addr} {nm last : Value} {dp : Nat} (x : CD w h Dc r nm dp last) : ∃ o, h.get? Dc = some o := by
  obtain ⟨a, b, c, d, e, f, y⟩ := x
  exact ⟨_, y⟩
theorem CD.up {h h' : Heap} {Dc r : Addr} {nm last : Value} {dp : Nat} (x : CD w h Dc r nm dp last) (k : ∀ b o, h.get? b = some o → h'.get? b = some o) : CD w h' Dc r nm dp last := by
  obtain ⟨a, b, c, d, e, f, y⟩ := x
  exact ⟨a, b, c, d, e, f, k _ _ y⟩
theorem CD.ne_rd {h : Heap} {Dc r D tl : Addr} {nm last nd : Value} {dp p : Nat} (x : CD w h Dc r nm dp last) (H : RD w h D tl p nd) : D ≠ Dc := fun q => by
  obtain ⟨a, b, c, d, e, f, y⟩ := x
  obtain ⟨t0, t1, t2, t3, n, z⟩ := H
  rw [q, y] at z
  have := congrArg (fun o : Option Obj => match o with | some ⟨_, _, .dict es _, _⟩ => es.size | _ => 0) z
  simp [cdict, rdict] at this
theorem CD.ne_lt {h : Heap} {Dc r P : Addr} {nm last : Value} {dp : Nat} {pos : Pos} {qual : PySem.Str} (x : CD w h Dc r nm dp last) (lt : Lt h P pos qual) : Dc ≠ P := fun q => by
  obtain ⟨a, b, c, d, e, f, y⟩ := x
  obtain ⟨ps, z, _⟩ := lt
  rw [← q, y] at z; cases z
variable {c Dc r : Addr} {nm last : Value} {dp : Nat}
theorem g_reader {Q : Value → Shared → Prop} (G : Gd w g) (S : St g W s.heap) (hi : s.heap.get? c = some (instObj 372 Dc)) (H : CD w s.heap Dc r nm dp last) (h : Q (.ref r) { s with toks := s.toks + 1 }) : wpAny (MM w) A (getAttr (.ref c) "reader" true) Q E s := by
  refine bc fun hGo => ?_
  obtain ⟨t0, t1, t2, t3, u, n, e⟩ := H
  refine hGo ?_; clear hGo
  exact rd_attr (G.keeps S.sub) hi e (by kernel_rfl) (by kernel_rfl) (by kernel_rfl) rfl rfl h
theorem g_depth {Q : Value → Shared → Prop} (G : Gd w g) (S : St g W s.heap) (hi : s.heap.get? c = some (instObj 372 Dc)) (H : CD w s.heap Dc r nm dp last) (h : ∀ t, Q (.int dp t) { s with toks := s.toks + 1 }) : wpAny (MM w) A (getAttr (.ref c) "depth" true) Q E s := by
  refine bc fun hGo => ?_
  obtain ⟨t0, t1, t2, t3, u, n, e⟩ := H
  refine hGo ?_; clear hGo
  exact rd_attr (G.keeps S.sub) hi e (by kernel_rfl) (by kernel_rfl) (by kernel_rfl) rfl rfl (h u)
theorem g_last {a : Addr} {Q : Value → Shared → Prop} (G : Gd w g) (S : St g W s.heap) (hi : s.heap.get? c = some (instObj 372 Dc)) (H : CD w s.heap Dc r nm dp (.ref a)) (h : Q (.ref a) { s with toks := s.toks + 1 }) : wpAny (MM w) A (getAttr (.ref c) "last" true) Q E s := by
  refine bc fun hGo => ?_
  obtain ⟨t0, t1, t2, t3, u, n, e⟩ := H
  refine hGo ?_; clear hGo
  exact rd_attr (G.keeps S.sub) hi e (by kernel_rfl) (by kernel_rfl) (by kernel_rfl) rfl rfl h
theorem g_isnamed {b : Bool} {f : Addr} {Q : Value → Shared → Prop} (G : Gd w g) (S : St g W s.heap) (hi : s.heap.get? c = some (instObj 372 Dc)) (H : CD w s.heap Dc r (.ref f) dp last) (h : Q (.ref f) { s with toks := s.toks + 1 }) : wpAny (MM w) A (getAttr (.ref c) "is_named" b) Q E s := by
  refine bc fun hGo => ?_
  obtain ⟨t0, t1, t2, t3, u, n, e⟩ := H
  refine hGo ?_; clear hGo
  exact get_value (G.keeps S.sub).K ⟨hi, rfl, rfl, e⟩ (by kernel_rfl) (findObj_own (attr := none) (by kernel_rfl) (by kernel_rfl) (by rfl) (show lookIn "is_named" (dictOf _ n) = _ from rfl)) rfl h
theorem m_isnamed {f : Addr} {pl : Sem Bool} {Q : Value × List Value → Shared → Prop} (G : Gd w g) (S : St g W s.heap) (hi : s.heap.get? c = some (instObj 372 Dc)) (H : CD w s.heap Dc r (.ref f) dp last) (h : Q (.ref f, []) { s with toks := s.toks + 1 }) : wpAny (MM w) A (getMethod (.ref c) "is_named" pl) Q E s := by
  have H2 := H
  refine bc fun hGo => ?_
  obtain ⟨t0, t1, t2, t3, u, n, e⟩ := H
  refine hGo ?_; clear hGo
  exact method_usual (r := none) (od := some (dictOf _ n)) (G.keeps S.sub).K ⟨hi, rfl, rfl, e⟩ (by kernel_rfl) (by kernel_rfl) (by kernel_rfl) (by rfl) (g_isnamed G S hi H2 h)
theorem m_cd {name : PySem.Str} {pl : Sem Bool} {Q : Value × List Value → Shared → Prop} {f : Addr} (G : Gd w g) (S : St g W s.heap) (hi : s.heap.get? c = some (instObj 372 Dc)) (H : CD w s.heap Dc r nm dp last)
    (h : Q (.ref f, [.ref c]) s) (hf : findIn (K w.params) (.ref 372) name = some (some (.ref f))) (hg : plainGet (K w.params) 372 name = true) (ht : isFn (K w.params) (.ref f) = true) (hl : ∀ t0 t1 t2 t3 u, getL name (cdict w r nm dp last t0 t1 t2 t3 u) = some none) :
    wpAny (MM w) A (getMethod (.ref c) name pl) Q E s := by
  refine bc fun hGo => ?_
  obtain ⟨t0, t1, t2, t3, u, n, e⟩ := H
  refine hGo ?_; clear hGo
  exact m_inst (G.keeps S.sub) hi e hg hf ht (hl _ _ _ _ _) h
theorem set_last {Q : Unit → Shared → Prop} {v : Value} (G : Gd w g) (C : Cx g W h0 L m s.heap) (hi : s.heap.get? c = some (instObj 372 Dc)) (H : CD w s.heap Dc r nm dp last) (hD : Dc ∈ W)
    (h : ∀ h', Cx g W h0 L m h' → CD w h' Dc r nm dp v → Keep2 [Dc, L] s.heap h' → Q () { s with heap := h', toks := s.toks + 2 }) :
    wpAny (MM w) A (setAttr (.ref c) "last" v) Q E s := by
  refine bc fun hGo => ?_
  obtain ⟨t0, t1, t2, t3, u, n, e⟩ := H
  refine hGo ?_; clear hGo
  refine set_attr (es' := cdict w r nm dp v t0 t1 t2 t3 u) (n' := n) G C hi e hD (by kernel_rfl) (by kernel_rfl) (by kernel_rfl) (by kernel_rfl) rfl (by rfl) (by simp [cdict]) fun h' C' k e' => h h' C' ⟨_, _, _, _, _, _, e'⟩ k
theorem At.open {h : Heap} {a : Addr} {ds : List PyData} (x : At h (.ref a) (.tuple ds)) : ∃ vs, IsTup h a vs ∧ ReadsAll h vs.toList ds [] := by
  generalize e : ([] : List Addr) = as at x
  cases x with
  | tuple h1 h2 h3 h4 => subst e; exact ⟨_, ⟨_, h1, h2, _, h3⟩, h4⟩
theorem readsAll_at {h : Heap} {vs : List Value} {ds : List PyData} {as : List Addr} (r : ReadsAll h vs ds as) (z : as = []) : ∀ (j : Nat) (d : PyData), ds[j]? = some d → ∃ v, vs[j]? = some v ∧ At h v d :=
  ReadsAll.rec (motive_1 := fun _ _ _ _ => True) (motive_2 := fun vs ds as _ => as = [] → ∀ (j : Nat) (d : PyData), ds[j]? = some d → ∃ v, vs[j]? = some v ∧ At h v d)
    trivial (fun _ => trivial) (fun _ _ => trivial) (fun _ _ => trivial) (fun _ _ _ _ _ => trivial) (fun _ _ _ _ _ => trivial) (fun _ _ _ _ _ _ _ => trivial)
    (fun _ _ _ e => nomatch e) (fun {v _ d _ _ _} r _ _ ih e j c q => by
      have e1 := List.append_eq_nil_iff.mp e
      have r := e1.1 ▸ r
      cases j with
      | zero => exact ⟨v, rfl, Option.some.inj q ▸ r⟩
      | succ j => exact ih e1.2 j c q) r z
theorem readsAll_len {h : Heap} {vs : List Value} {ds : List PyData} {as : List Addr} (r : ReadsAll h vs ds as) : vs.length = ds.length :=
  ReadsAll.rec (motive_1 := fun _ _ _ _ => True) (motive_2 := fun vs ds _ _ => vs.length = ds.length)
    trivial (fun _ => trivial) (fun _ _ => trivial) (fun _ _ => trivial) (fun _ _ _ _ _ => trivial) (fun _ _ _ _ _ => trivial) (fun _ _ _ _ _ _ _ => trivial)
    rfl (fun _ _ _ e => congrArg (· + 1) e) r
theorem tup_item {value slice : PySem.Expr} {a : Addr} {ds : List PyData} {d : PyData} {j : Nat} {u : Tok} {Q : Value → Shared → Prop} (x : At s.heap (.ref a) (.tuple ds)) (hj : ds[j]? = some d) (hz : ds.length < 100) (h : ∀ v, At s.heap v d → Q v s)
    (hs : subscripted slice false (.ref a) (.int (j : Int) u) = operate [.ref a, .int (j : Int) u] (getItem (.ref a) (.int (j : Int) u)) := by with_unfolding_all rfl) :
    wpAny (MM w) A (subscriptTail value slice (.ref a) (.int (j : Int) u)) Q E s := by
  refine bc fun hGo => ?_
  obtain ⟨vs, t, r⟩ := x.open
  obtain ⟨v, e1, e2⟩ := readsAll_at r rfl j d hj
  refine hGo ?_; clear hGo
  have l := readsAll_len r
  have lj : j < ds.length := by obtain ⟨z, _⟩ := List.getElem?_eq_some_iff.mp hj; exact z
  refine item_tupleT (j := j) t (by omega) (by omega) ?_ (by simpa using e1) (h v e2) hs
  unfold seqIndex?
  simp only [Array.length_toList] at l
  have : ¬ ((j : Int) < 0) := by omega
  simp [this, l]
  omega
end
theorem nin22 {a x y : Addr} (n : a ≠ x) (m : a ≠ y) : a ∉ [x, y] := fun q => by
  rcases List.mem_cons.mp q with q | q
  · exact n q
  · exact m (List.mem_singleton.mp q)
theorem item_equal {w : World} {A : Around} {E : Value → Shared → Prop} {s : Shared} {g : Heap} {W : List Addr} {value slice : PySem.Expr} {x : PySem.Str} {t : Tok} {Q : Value → Shared → Prop} (G : Gd w g) (S : St g W s.heap) (hx : x = ofString "EQUAL") (h : Q (.str (ofString "=") 573) { s with toks := s.toks + 1 })
    (hs : subscripted slice false (.ref 241) (.str x t) = operate [.ref 241, .str x t] (getItem (.ref 241) (.str x t)) := by with_unfolding_all rfl) :
    wpAny (MM w) A (subscriptTail value slice (.ref 241) (.str x t)) Q E s := by
  subst hx
  refine bc fun hGo => ?_
  obtain ⟨es, n, hl, hk⟩ := k241 w
  refine hGo ?_; clear hGo
  exact item_K (v := .str (ofString "=") 573) G S hl hk (by kernel_rfl) h hs
theorem item_zero {w : World} {A : Around} {E : Value → Shared → Prop} {s : Shared} {g : Heap} {W : List Addr} {value slice : PySem.Expr} {x : PySem.Str} {t : Tok} {Q : Value → Shared → Prop} (G : Gd w g) (S : St g W s.heap) (hx : x = ofString "ZERO") (h : Q (.str (ofString "ZERO") 557) { s with toks := s.toks + 1 })
    (hs : subscripted slice false (.ref 240) (.str x t) = operate [.ref 240, .str x t] (getItem (.ref 240) (.str x t)) := by with_unfolding_all rfl) :
    wpAny (MM w) A (subscriptTail value slice (.ref 240) (.str x t)) Q E s := by
  subst hx
  refine bc fun hGo => ?_
  obtain ⟨es, n, hl, hk⟩ := k240 w
  refine hGo ?_; clear hGo
  exact item_K (v := .str (ofString "ZERO") 557) G S hl hk (by kernel_rfl) h hs
theorem RD.go3 {w : World} {h h' : Heap} {X : List Addr} {D tl : Addr} {p : Nat} {nd : Value} (H : RD w h D tl p nd) (k : Keep2 X h h') (n : D ∉ X) : RD w h' D tl p nd := H.gs k n
theorem said47 : True := by
  k_with "m:ite" => first | refine ite_t2 (by kernel_rfl!) ?_ | refine ite_f2 (by kernel_rfl!) ?_ | fail "ite"
  k_with "m:exec Expr" => refine wpAny_Expr_any ?_
  k_with "m:nin3" => first | exact List.not_mem_nil | exact nin1 ‹_› | exact nin1 (Ne.symm ‹_›) | exact nin22 ‹_› ‹_› | exact nin22 (Ne.symm ‹_›) ‹_› | fail "nin3"
  trivial
def Ats (h : Heap) (l : List (Value × PyData)) : Prop := ∀ q ∈ l, At h q.1 q.2
theorem Ats.nil {h : Heap} : Ats h [] := fun _ q => nomatch q
theorem Ats.go {h h' : Heap} {X : List Addr} {l : List (Value × PyData)} (k : Keep2 X h h') (T : Ats h l) : Ats h' l := fun q m => At.go k (T q m)
theorem Ats.add {h : Heap} {l : List (Value × PyData)} {v : Value} {d : PyData} (T : Ats h l) (x : At h v d) : Ats h ((v, d) :: l) := fun q m => by
  rcases List.mem_cons.mp m with rfl | m
  · exact x
  · exact T q m
theorem Ats.get {h : Heap} {l : List (Value × PyData)} {v : Value} {d : PyData} (T : Ats h l) (m : (v, d) ∈ l) : At h v d := T _ m
theorem inst_go {h h' : Heap} {X : List Addr} {c C D : Addr} (k : Keep2 X h h') (e : h.get? c = some (instObj C D)) : h'.get? c = some (instObj C D) := k.stab _ _ trivial e
theorem said48 : True := by
  k_with "m:mem" => first | exact List.Mem.head _ | (refine List.Mem.tail _ ?_; walk_at "mem") | fail "mem"
  k_with "m:at" => first
      | exact Reads.int _ _ | exact Reads.str _ _ | exact Reads.none | exact Reads.bool _
      | exact Ats.get ‹_› (by walk_at "mem") | fail "at"
  k_with "m:at2" => first
      | exact Reads.int _ _ | exact Reads.str _ _ | exact Reads.none | exact Reads.bool _
      | exact Ats.get ‹_› (by walk_at "mem") | fail "at2"
  k_with "m:ats2" => first | exact ReadsAll.nil | exact At.cons (by walk_at "at2") (by walk_at "ats2") | fail "ats2"
  k_with "m:newTuple" => (walk_plain_pass; refine new_tuple ?_; intro aₘ hₘ kₘ eₘ; have Cₘ := Cx.gs ‹_› kₘ; (first | have Hₘ := RD.gs ‹_› kₘ (by walk_at "sm") | skip); have Tₘ := Ats.go kₘ ‹_›; have tₘ := At.tup eₘ (by walk_at "ats2"); have Tₘₘ := Ats.add Tₘ tₘ; (first | have hcₘ := inst_go kₘ ‹_› | skip); (first | have cdₘ := CD.go2 kₘ ‹_› List.not_mem_nil | skip); (first | have ltₘ := Lt.go2 kₘ ‹_› List.not_mem_nil | skip); try dsimp only)
  k_with "m:more" => (
      (first | have Tₘ := Ats.go ‹_› ‹_› | skip);
      (first | have Tₘ := Ats.add ‹_› ‹_› | skip);
      (first | have hcₘ := inst_go ‹_› ‹_› | skip);
      (first | have cdₘ := CD.go2 ‹_› ‹_› (by walk_at "nin3") | skip);
      (first | have ltₘ := Lt.go2 ‹_› ‹_› (by walk_at "nin2") | skip))
  k_with "m:cd" => first | assumption | exact CD.go2 ‹_› (by walk_at "cd") (by walk_at "nin3") | fail "cd"
  k_with "m:getAttr ref" => (walk_plain_pass; first
      | ((with_reducible refine' g_reader ?g1 ?g2 ?g3 ?g4 ?_); (case g1 => assumption); (case g2 => exact Cx.st ‹_›); (case g3 => walk_at "stab"); (case g4 => walk_at "cd"))
      | ((with_reducible refine' g_last ?g1 ?g2 ?g3 ?g4 ?_); (case g1 => assumption); (case g2 => exact Cx.st ‹_›); (case g3 => walk_at "stab"); (case g4 => walk_at "cd"))
      | ((with_reducible refine' g_depth ?g1 ?g2 ?g3 ?g4 ?_); (case g1 => assumption); (case g2 => exact Cx.st ‹_›); (case g3 => walk_at "stab"); (case g4 => walk_at "cd"); intro _)
      | fail "getAttr")
  k_with "m:subscriptTail" => (walk_plain_pass; first | ((with_reducible show wpAny _ _ (subscriptTail _ _ (Value.ref 241) _) _ _ _); refine item_equal ‹_› (Cx.st ‹_›) (by kernel_rfl!) ?_) | ((with_reducible show wpAny _ _ (subscriptTail _ _ (Value.ref 240) _) _ _ _); refine item_zero ‹_› (Cx.st ‹_›) (by kernel_rfl!) ?_) | fail "subscriptTail")
  k_with "m:subscriptTail Name Name ref str" => (walk_plain_pass; ((with_reducible show wpAny _ _ (subscriptTail _ _ (Value.ref 240) _) _ _ _); refine item_zero ‹_› (Cx.st ‹_›) (by kernel_rfl!) ?_))
  k_with "m:getMethod ref" => (walk_plain_pass; refine m_cd ‹_› (Cx.st ‹_›) (by walk_at "stab") (by walk_at "cd") ?_ (by with_reducible first | exact mf_ConditionReader_either _ | exact mf_ConditionReader_both _ | exact mf_ConditionReader_turned _ | exact mf_ConditionReader_single _ | exact mf_ConditionReader_unbracketed _ | exact mf_ConditionReader_in_brackets _ | exact mf_ConditionReader_predicate _ | exact mf_ConditionReader_relation _ | exact mf_ConditionReader_sign_here _) (by kernel_rfl) (by kernel_rfl) (fun _ _ _ _ _ => rfl))
  trivial
theorem C_sign_here {c Dc : Addr} {nm last : Value} {dp : Nat} {y : PySem.Str} {q : Nat} {Q : Value → Shared → Prop} (G : Gd w g) (S : St g W s.heap) (R : RS w g r D tl nd toks ts) (H : RD w s.heap D tl p nd) (hD : D ∈ W) (hh : A.handled = none) (hd : A.depth + 4 < recursionLimit) (hp : p < 2 ^ 29) (hc : s.heap.get? c = some (instObj 372 Dc)) (cd : CD w s.heap Dc r nm dp last) (hs : (ts[p]? = some (sg y) ∧ q = p + 1) ∨ (ts[p]? = some (wd (ofString "EQUAL")) ∧ ts[p + 1]? = some (wd (ofString "TO")) ∧ y = ofString "=" ∧ q = p + 2))
    (h : ∀ u h' tk, Keep2 [D] s.heap h' → RD w h' D tl q nd → Q (.str y u) { s with heap := h', toks := tk }) : wpAny (MM w) A (call (.ref 369) [.ref c]) Q E s := by
  w_top off
  have S1 : St g [D] s.heap := S.less (sub1 hD)
  refine enterN (W := [D]) [("self", .ref c)] G S1 ((fn_at G S (f369 w)).trans rfl) (by kernel_rfl) (by walk_at "dq") (BindsTo.of_eq rfl) (locs rfl) ?_ (by rfl)
  intro L h₁ tk C nL k0
  have dL : D ≠ L := ne_of_live H.live nL
  replace H := H.up k0
  have cd1 := cd.up k0
  have hc1 := k0 _ _ hc
  have dDc : D ≠ Dc := cd1.ne_rd H
  have lDc : Dc ≠ L := ne_of_live cd.live nL
  rcases hs with ⟨ht, rfl⟩ | ⟨ht, ht1, rfl, rfl⟩
  · have hq := R.lt ht
    repeat walk1
    try dsimp only
    exact h _ _ _ (Cx.keep (by assumption) nL) (by assumption)
  · have hq := R.lt ht
    repeat walk1
    try dsimp only
    exact h _ _ _ (Cx.keep (by assumption) nL) (by assumption)
theorem said49 : True := by
  k_with "m:call ref" => (walk_plain_pass; ((with_reducible show wpAny _ _ (call (Value.ref 369) _) _ _ _); refine C_sign_here ‹_› (Cx.st ‹_›) ‹_› ‹_› (by walk_at "sm") ‹_› (by walk_at "dp") (by walk_at "om") (by walk_at "stab") (by walk_at "cd") ‹_› ?_; intro _ _ _ kₘ Hₘ; have Cₘ := Cx.gs ‹_› kₘ; walk_at "more"; try dsimp only))
  trivial
section
open G2
section
variable {w : World} {A : Around} {E : Value → Shared → Prop} {s : Shared} {g : Heap} {W : List Addr} {h0 h1 : Heap} {L : Addr} {m : PySem.Str → Option Value}
abbrev frs (fs : List Env) : List Addr := fs.filterMap (·.frame)
def FF (W : List Addr) (h : Heap) (fs : List Env) : Prop := ∀ env ∈ fs, env.scope.kind ≠ .module ∧ ∃ L m, env.frame = some L ∧ h.Ns L m ∧ L ∉ W
theorem FF.fun_ {h h' : Heap} (k : ∀ b o, h.get? b = some o → (∀ vs, o.data ≠ .fields vs) → b ∉ W → ∃ o', h'.get? b = some o' ∧ o'.data = o.data) : ∀ {fs : List Env}, FF W h fs → h'.FunFrames {} fs
  | [], _ => trivial
  | env :: r, x => by
    obtain ⟨a, L, m, e, ⟨o, es, ep, ho, hd, _⟩, n⟩ := x env (.head _)
    obtain ⟨o', ho', hd'⟩ := k L o ho (by rw [hd]; intro vs q; cases q) n
    refine ⟨a, ⟨L, o', e, by simp [Heap.get?], ho', by rw [hd', hd]; intro vs q; cases q⟩, FF.fun_ k fun y q => x y (.tail _ q)⟩
theorem FF.go {h h' : Heap} {fs : List Env} {X : List Addr} (x : FF W h fs) (k : Keep2 X h h') (s : ∀ b ∈ X, b ∈ W ∨ h.get? b = none) : FF W h' fs := fun env q => by
  obtain ⟨a, L, m, e, ⟨o, es, ep, ho, r⟩, n⟩ := x env q
  exact ⟨a, L, m, e, ⟨o, es, ep, k.keep _ _ ho (fun z => (s L z).elim n fun y => by rw [y] at ho; cases ho), r⟩, n⟩
theorem FF.less {h : Heap} {fs : List Env} {W' : List Addr} (x : FF W h fs) (s : ∀ b ∈ W', b ∈ W) : FF W' h fs := fun env q =>
  let ⟨a, L, m, e, r, n⟩ := x env q; ⟨a, L, m, e, r, fun z => n (s L z)⟩
theorem FF.mem {h : Heap} {fs : List Env} {b : Addr} (x : FF W h fs) (q : b ∈ frs fs) : b ∉ W ∧ ∃ o, h.get? b = some o := by
  obtain ⟨env, a, e⟩ := List.mem_filterMap.mp q
  obtain ⟨_, L, m, e', ⟨o, _, _, ho, _⟩, n⟩ := x env a
  rw [e] at e'; cases e'
  exact ⟨n, o, ho⟩
theorem FF.push {fs : List Env} {env : Env} (x : FF W h0 fs) (C : Cx g W h0 L m h1) (n : h0.get? L = none) (hk : env.scope.kind ≠ .module) (hf : env.frame = some L) : FF W h1 (env :: fs) := fun y q => by
  rcases List.mem_cons.mp q with rfl | q
  · exact ⟨hk, L, m, hf, C.ns, C.nL⟩
  · exact x.go C.k (fun b z => (List.mem_cons.mp z).elim (fun y => .inr (y ▸ n)) .inl) y q
structure Told (h : Heap) (d : Addr) (D : PyData) : Prop where
  at_ : ∃ es n v, h.get? d = some (dictOf es n) ∧ getL "at" es = some (some v) ∧ At h v D
theorem Told.go {h h' : Heap} {X : List Addr} {d : Addr} {D : PyData} (x : Told h d D) (k : Keep2 X h h') (n : d ∉ X) : Told h' d D := by
  obtain ⟨es, i, v, a, b, c⟩ := x.at_
  exact ⟨es, i, v, k.keep _ _ a n, b, c.go k⟩
structure Fly (W : List Addr) (fs : List Env) (C : Addr) (D : PyData) (h h' : Heap) (e d : Addr) (fl : Value) : Prop where
  keep : ∀ b o, h.get? b = some o → b ∉ W → b ∉ frs fs → h'.get? b = some o
  live : ∀ b o, h.get? b = some o → ∃ o', h'.get? b = some o'
  stab : ∀ b o, Stab o → h.get? b = some o → h'.get? b = some o
  frame : ∀ b o, h.get? b = some o → b ∈ frs fs → ∃ sl, h'.get? b = some { o with slots := sl }
  new : h.get? e = none
  newd : h.get? d = none
  exc : ∃ oe vs T oT ts, h'.get? e = some oe ∧ oe.cls = .ref C ∧ oe.dict = some d ∧ oe.data = .fields vs ∧ vs[1]? = some (.ref T) ∧ h.get? T = none ∧ T ≠ e ∧ T ≠ d ∧ h'.get? T = some oT ∧ oT.data = .fields ts ∧ ts[3]? = some fl ∧ ∀ x t, ts[1]? ≠ some (.str x t)
  told : Told h' d D
theorem fields_of_get {h : Heap} {e : Addr} {oe : Obj} {vs : Array Value} (he : h.get? e = some oe) (hd : oe.data = .fields vs) {b : Addr} {o : Obj} (hb : h.get? b = some o) (hn : ∀ vs, o.data ≠ .fields vs) : b ≠ e := fun q => by
  rw [q, he] at hb; cases hb; exact hn vs hd
theorem new_entry {env : Env} {outer : List Env} {L e : Addr} {oe : Obj} {vs : Array Value} {head : Value} {hadNext : Bool} {Q : Unit → Shared → Prop}
    (hfr : A.frames = some (env :: outer)) (hl : s.heap.FunFrames {} (env :: outer)) (hf : env.frame = some L) (he : s.heap.get? e = some oe) (hd : oe.data = .fields vs) (hsz : 1 < vs.size)
    (h : ∀ h' T oT ts, (∀ b o, s.heap.get? b = some o → b ∉ frs (env :: outer) → b ≠ e → h'.get? b = some o) → (∀ b o, s.heap.get? b = some o → b ≠ e → ∃ sl, h'.get? b = some { o with slots := sl }) →
      h'.get? e = some (oe.mapFields (·.setIfInBounds 1 (.ref T))) → s.heap.get? T = none → h'.get? T = some oT → oT.data = .fields ts → ts[3]? = some (rawInt L) → (∀ x t, ts[1]? ≠ some (.str x t)) → Q () { s with heap := h' }) :
    wpAny (MM w) A (do let a ← frameOf env; let pl ← entryPlaceOf L hadNext; let b ← EntryCells.newEntry head a .none (rawInt L) .none pl; setField (.ref e) 1 b) Q E s := by
  have hene : e ∉ frs (env :: outer) := fun hm => by
    obtain ⟨_, o, ho, hnf⟩ := hl.mem hm
    exact fields_of_get he hd ho hnf rfl
  refine wpAny_bind (wpAny_frameOf_fun hfr hl hf fun h₁ hs => ?_)
  refine wpAny_bind (wpAny_entryPlaceOf fun pl hpl => ?_)
  unfold EntryCells.newEntry newFields
  refine wpAny_bind (wpAny_newObj_type ?_ (hpl.sizeOk5 _ _ _ _ _))
  have he₁ : h₁.get? e = some oe := (hs.2.1 e hene).trans he
  have up : ∀ b o, b ≠ e → h₁.get? b = some o → ∀ (x : Obj) (f : Obj → Obj), ((h₁.push x).update e f).get? b = some o := fun b o hbe hb x f => by
    rw [Heap.get?_update_other _ _ (Ne.symm hbe)]
    exact Heap.get?_push_of_some _ hb
  have hT : s.heap.get? h₁.objs.size = none := by
    cases q : s.heap.get? h₁.objs.size with
    | none => rfl
    | some o => exact absurd (Heap.lt_size q) (by rw [hs.1]; exact Nat.lt_irrefl _)
  refine wpAny_setField (Heap.get?_push_of_some _ he₁) hd hsz (h _ h₁.objs.size { cls := .type "traceback", dict := none, data := .fields ([head, .ref L, .none, rawInt L, .none] ++ (if pl.isEmpty then List.replicate 6 Value.none else pl)).toArray } ([head, .ref L, .none, rawInt L, .none] ++ (if pl.isEmpty then List.replicate 6 Value.none else pl)).toArray (fun b o e1 n1 n2 => up b o n2 ((hs.2.1 b n1).trans e1) _ _) (fun b o e1 n1 => let ⟨sl, e2⟩ := hs.2.2 b o e1; ⟨sl, up b _ n1 e2 _ _⟩) ?_ hT ?_ ?_ ?_ ?_)
  · exact Heap.get?_update_self _ (Heap.get?_push_of_some _ he₁) (Obj.isFreed_of_fields (Obj.data_mapFields hd _))
  · rw [Heap.get?_update_other _ _ (Nat.ne_of_lt (Heap.lt_size he₁))]
    exact Heap.get?_push_size h₁ rfl
  · rfl
  · first | (simp; done) | (rcases hpl with rfl | ⟨_, _, _, _, _, _, _, rfl⟩ <;> simp)
  · intro x t; first | (simp; done) | (rcases hpl with rfl | ⟨_, _, _, _, _, _, _, rfl⟩ <;> simp)
theorem none_back {h h' : Heap} (k : ∀ b o, h.get? b = some o → ∃ o', h'.get? b = some o') {b : Addr} (e : h'.get? b = none) : h.get? b = none := by
  cases q : h.get? b with
  | none => rfl
  | some o => obtain ⟨o', z⟩ := k b o q; rw [e] at z; cases z
theorem FF.not_stab {h : Heap} {fs : List Env} (x : FF W h fs) {b : Addr} {o : Obj} (q : b ∈ frs fs) (e : h.get? b = some o) : ¬ Stab o := by
  obtain ⟨env, a, z⟩ := List.mem_filterMap.mp q
  obtain ⟨_, L, m, e', ns, _⟩ := x env a
  rw [z] at e'; cases e'
  exact Ns_not_stab ns o e
theorem Fly.fun_ {h h' : Heap} {fs : List Env} {C e d : Addr} {D : PyData} {fl : Value} (F : Fly W fs C D h h' e d fl) (ff : FF W h fs) : h'.FunFrames {} fs := by
  have : ∀ l : List Env, (∀ y ∈ l, y ∈ fs) → h'.FunFrames {} l := by
    intro l
    induction l with
    | nil => intro _; trivial
    | cons env r ih =>
      intro q
      obtain ⟨a, L, m, z, ⟨o, es, ep, ho, hd, _⟩, n⟩ := ff env (q _ (.head _))
      obtain ⟨sl, ho'⟩ := F.frame L o ho (List.mem_filterMap.mpr ⟨env, q _ (.head _), z⟩)
      exact ⟨a, ⟨L, _, z, by simp [Heap.get?], ho', by rw [show ({ o with slots := sl } : Obj).data = o.data from rfl, hd]; intro vs y; cases y⟩, ih fun y m => q y (.tail _ m)⟩
  exact this fs fun _ q => q
theorem Fly.entry {h h1 h' : Heap} {fs : List Env} {C e d : Addr} {D : PyData} {fl2 : Value} {oe : Obj} {vs : Array Value} {T : Addr} {oT : Obj} {ts : Array Value} (ff : FF W h fs)
    (keep : ∀ b o, h.get? b = some o → b ∉ W → b ∉ frs fs → h1.get? b = some o) (live : ∀ b o, h.get? b = some o → ∃ o', h1.get? b = some o') (stab : ∀ b o, Stab o → h.get? b = some o → h1.get? b = some o)
    (frame : ∀ b o, h.get? b = some o → b ∈ frs fs → ∃ sl, h1.get? b = some { o with slots := sl }) (new : h.get? e = none) (newd : h.get? d = none) (told : Told h1 d D) (ne : d ≠ e)
    (hc : oe.cls = .ref C) (hdi : oe.dict = some d) (hd : oe.data = .fields vs) (hz : 1 < vs.size) (nv : ∀ x t, vs[1]? ≠ some (.str x t)) (he : h1.get? e = some oe)
    (k1 : ∀ b o, h1.get? b = some o → b ∉ frs fs → b ≠ e → h'.get? b = some o) (k2 : ∀ b o, h1.get? b = some o → b ≠ e → ∃ sl, h'.get? b = some { o with slots := sl })
    (e1 : h'.get? e = some (oe.mapFields (·.setIfInBounds 1 (.ref T)))) (nT : h1.get? T = none) (eT : h'.get? T = some oT) (dT : oT.data = .fields ts) (fT : ts[3]? = some fl2) (gT : ∀ x t, ts[1]? ≠ some (.str x t)) : Fly W fs C D h h' e d fl2 := by
  have ne_e : ∀ b o, h.get? b = some o → b ≠ e := fun b o q z => by rw [z, new] at q; cases q
  have dfr : d ∉ frs fs := fun q => by obtain ⟨_, o, z⟩ := ff.mem q; rw [newd] at z; cases z
  obtain ⟨es, n, v, t1, t2, t3⟩ := told.at_
  refine ⟨fun b o q n1 n2 => k1 b o (keep b o q n1 n2) n2 (ne_e b o q), fun b o q => ?_, fun b o z q => k1 b o (stab b o z q) (fun y => ff.not_stab y q z) (ne_e b o q), fun b o q z => ?_, new, newd, ⟨_, _, T, oT, ts, e1, (Obj.cls_mapFields _ _).trans hc, ?_, Obj.data_mapFields hd _, by simp [hz], none_back live nT, ?_, ?_, eT, dT, fT, gT⟩, ⟨es, n, v, k1 _ _ t1 dfr ne, t2, ?_⟩⟩
  · obtain ⟨o', q'⟩ := live b o q
    obtain ⟨sl, q2⟩ := k2 b o' q' (ne_e b o q)
    exact ⟨_, q2⟩
  · obtain ⟨sl, q'⟩ := frame b o q z
    obtain ⟨sl2, q2⟩ := k2 b _ q' (ne_e b o q)
    exact ⟨sl2, q2⟩
  · rw [← hdi]; cases oe; rename_i c dd dt sl; cases dt <;> rfl
  · intro q; rw [← q, nT] at he; cases he
  · intro q; rw [← q, nT] at t1; cases t1
  · have fr : ∀ b o, h1.get? b = some o → b ∈ frs fs → ¬ Stab o := fun b o q z y => by
      obtain ⟨_, o0, q0⟩ := ff.mem z
      obtain ⟨sl, q1⟩ := frame b o0 q0 z
      rw [q] at q1; cases q1
      exact ff.not_stab z q0 y
    have K : Keep2 (e :: frs fs) h1 h' := ⟨fun b o q n => k1 b o q (fun z => n (.tail _ z)) fun z => n (z ▸ .head _), fun b o q => by
        by_cases z : b = e
        · subst z; exact ⟨_, e1⟩
        · obtain ⟨sl, q2⟩ := k2 b o q z; exact ⟨_, q2⟩, fun b o z q => k1 b o q (fun y => fr b o q y z) fun y => by
        subst y; rw [he] at q; cases q
        unfold Stab at z; rw [hd] at z
        obtain ⟨x, u, z⟩ := z
        exact nv x u z⟩
    exact t3.go K
theorem note_first {h : Heap} {env : Env} {outer : List Env} {L C e d : Addr} {D : PyData} {oe : Obj} {vs : Array Value} {X : List Addr} {Q : Unit → Shared → Prop} (hfr : A.frames = some (env :: outer)) (hf : env.frame = some L) (ff : FF W h (env :: outer))
    (k : Keep2 X h s.heap) (sX : ∀ b ∈ X, b ∈ W) (new : h.get? e = none) (newd : h.get? d = none) (told : Told s.heap d D) (he : s.heap.get? e = some oe) (hc : oe.cls = .ref C) (hdi : oe.dict = some d) (hd : oe.data = .fields vs) (h1 : vs[1]? = some .none)
    (hQ : ∀ h', Fly W (env :: outer) C D h h' e d (rawInt L) → Q () { s with heap := h' }) : wpAny (MM w) A (noteFrame (.ref e) env) Q E s := by
  have F0 : ∀ b o, h.get? b = some o → b ∉ W → b ∉ frs (env :: outer) → s.heap.get? b = some o := fun b o q n _ => k.keep b o q fun z => n (sX b z)
  have ff' : FF W s.heap (env :: outer) := ff.go k fun b q => .inl (sX b q)
  have hl : s.heap.FunFrames {} (env :: outer) := ff'.fun_ fun b o q _ _ => ⟨o, q, rfl⟩
  have ne : d ≠ e := fun q => by obtain ⟨es, n, v, z, _⟩ := told.at_; rw [q, he] at z; cases z; cases hd
  unfold noteFrame
  simp only [hf]
  refine wpAny_bind (wpAny_field he hd h1 ?_)
  rw [if_neg (by decide)]
  refine new_entry hfr hl hf he hd (Array.getElem?_eq_some_iff.mp h1).1 fun h' T oT ts k1 k2 k3 nT eT dT fT gT => hQ h' ?_
  exact Fly.entry ff F0 k.live k.stab (fun b o q z => ⟨o.slots, k.keep b o q fun y => (ff.mem z).1 (sX b y)⟩) new newd told ne hc hdi hd (Array.getElem?_eq_some_iff.mp h1).1 (fun x t q => by rw [h1] at q; cases q) he k1 k2 k3 nT eT dT fT gT
theorem told_T {h h' : Heap} {T : Addr} {oT oT' : Obj} {ts : Array Value} (hT : h.get? T = some oT) (hd : oT.data = .fields ts) (g1 : ∀ x t, ts[1]? ≠ some (.str x t)) (hT' : h'.get? T = some oT') (other : ∀ b, b ≠ T → h'.get? b = h.get? b) : Keep2 [T] h h' :=
  ⟨fun b o q n => (other b fun z => n (z ▸ .head _)).trans q, fun b o q => by
    by_cases z : b = T
    · subst z; exact ⟨_, hT'⟩
    · exact ⟨o, (other b z).trans q⟩, fun b o y q => by
    by_cases z : b = T
    · subst z; rw [hT] at q; cases q
      unfold Stab at y; rw [hd] at y
      obtain ⟨x, u, y⟩ := y
      exact absurd y (g1 x u)
    · exact (other b z).trans q⟩
def Quiet (h : Heap) (fs : List Env) (h1 h' : Heap) : Prop := ∃ Z, Keep2 Z h1 h' ∧ ∀ b ∈ Z, b ∈ frs fs ∨ h.get? b = none
theorem Quiet.trans {h h1 h2 h3 : Heap} {fs : List Env} (x : Quiet h fs h1 h2) (y : Quiet h fs h2 h3) : Quiet h fs h1 h3 := by
  obtain ⟨Z, k, z⟩ := x
  obtain ⟨Z', k', z'⟩ := y
  exact ⟨Z ++ Z', (k.more fun _ q => List.mem_append_left _ q).trans (k'.more fun _ q => List.mem_append_right _ q), fun b q => (List.mem_append.mp q).elim (z b) (z' b)⟩
theorem entry_keep {h1 h' : Heap} {fs : List Env} {e : Addr} {oe oe' : Obj} {vs : Array Value} (hd : oe.data = .fields vs) (nv : ∀ x t, vs[1]? ≠ some (.str x t)) (he : h1.get? e = some oe) (fr : ∀ b o, h1.get? b = some o → b ∈ frs fs → ¬ Stab o)
    (k1 : ∀ b o, h1.get? b = some o → b ∉ frs fs → b ≠ e → h'.get? b = some o) (k2 : ∀ b o, h1.get? b = some o → b ≠ e → ∃ sl, h'.get? b = some { o with slots := sl }) (e1 : h'.get? e = some oe') : Keep2 (e :: frs fs) h1 h' :=
  ⟨fun b o q n => k1 b o q (fun z => n (.tail _ z)) fun z => n (z ▸ .head _), fun b o q => by
    by_cases z : b = e
    · subst z; exact ⟨_, e1⟩
    · obtain ⟨sl, q2⟩ := k2 b o q z; exact ⟨_, q2⟩, fun b o z q => k1 b o q (fun y => fr b o q y z) fun y => by
    subst y; rw [he] at q; cases q
    unfold Stab at z; rw [hd] at z
    obtain ⟨x, u, z⟩ := z
    exact nv x u z⟩
theorem note_next {h : Heap} {env : Env} {outer : List Env} {L C e d : Addr} {D : PyData} {Q : Unit → Shared → Prop} (hfr : A.frames = some (env :: outer)) (hf : env.frame = some L) (ff : FF W h (env :: outer)) (F : Fly W (env :: outer) C D h s.heap e d .none)
    (hQ : ∀ h', Fly W (env :: outer) C D h h' e d (rawInt L) → Quiet h (env :: outer) s.heap h' → Q () { s with heap := h' }) : wpAny (MM w) A (noteFrame (.ref e) env) Q E s := by
  refine bc fun hGo => ?_
  obtain ⟨oe, vs, T, oT, ts, he, hc, hdi, hd, h1, hnT, hTe, hTd, hT, hdT, h3, g1⟩ := F.exc
  refine hGo ?_; clear hGo
  have hl := F.fun_ ff
  have ne : d ≠ e := fun q => by obtain ⟨es, n, v, z, _⟩ := F.told.at_; rw [q, he] at z; cases z; cases hd
  unfold noteFrame
  simp only [hf]
  refine wpAny_bind (wpAny_field he hd h1 ?_)
  rw [if_pos (show (Value.ref T != Value.none) = true from by simp)]
  refine wpAny_bind (wpAny_field hT hdT h3 ?_)
  rw [if_neg (show ¬ ((Value.none == rawInt L) = true) from by simp [rawInt])]
  refine wpAny_bind (wpAny_setField hT hdT (Array.getElem?_eq_some_iff.mp h3).1 ?_)
  have other : ∀ b, b ≠ T → (s.heap.update T (Obj.mapFields (·.setIfInBounds 3 Value.none))).get? b = s.heap.get? b := fun b hb => Heap.get?_update_other _ _ (Ne.symm hb)
  have nT : ∀ b o, h.get? b = some o → b ≠ T := fun b o q z => by rw [z, hnT] at q; cases q
  have hT' := Heap.get?_update_self (Obj.mapFields (·.setIfInBounds 3 Value.none)) hT (Obj.isFreed_of_fields (Obj.data_mapFields hdT _))
  have he' := (other e (Ne.symm hTe)).trans he
  have hl' : (s.heap.update T (Obj.mapFields (·.setIfInBounds 3 Value.none))).FunFrames {} (env :: outer) := hl.of_keeps fun b o q n => ⟨o, (other b (fields_of_get hT hdT q n)).trans q, rfl⟩
  refine new_entry hfr hl' hf he' hd (Array.getElem?_eq_some_iff.mp h1).1 fun h' T' oT' ts' k1 k2 k3 nT' eT dT fT gT => hQ h' ?_ ⟨T :: e :: frs (env :: outer), ((told_T hT hdT g1 hT' other).more (by simp)).trans ((entry_keep hd (fun x t q => by rw [h1] at q; cases q) he' (fun b o q z y => ?_) k1 k2 k3).more fun x q => .tail _ q), fun b q => ?_⟩
  refine Fly.entry ff (fun b o q a c => (other b (nT b o q)).trans (F.keep b o q a c)) (fun b o q => let ⟨o', q'⟩ := F.live b o q; ⟨o', (other b (nT b o q)).trans q'⟩) (fun b o z q => (other b (nT b o q)).trans (F.stab b o z q))
    (fun b o q z => let ⟨sl, q'⟩ := F.frame b o q z; ⟨sl, (other b (nT b o q)).trans q'⟩) F.new F.newd ?_ ne hc hdi hd (Array.getElem?_eq_some_iff.mp h1).1 (fun x t q => by rw [h1] at q; cases q) he' k1 k2 k3 nT' eT dT fT gT
  · exact F.told.go (told_T hT hdT g1 hT' other) fun q => hTd (List.mem_singleton.mp q).symm
  · obtain ⟨_, o0, q0⟩ := ff.mem z
    refine bc fun hGo => ?_
    obtain ⟨sl, q1⟩ := F.frame b o0 q0 z
    refine hGo ?_; clear hGo
    have q2 := (other b (nT b o0 q0)).trans q1
    rw [q] at q2; cases q2
    exact ff.not_stab z q0 y
  · rcases List.mem_cons.mp q with q | q
    · exact .inr (q ▸ hnT)
    rcases List.mem_cons.mp q with q | q
    · exact .inr (q ▸ F.new)
    · exact .inl q
theorem flight_off {h : Heap} {fs : List Env} {C e d : Addr} {D : PyData} {fl : Value} {Q : Unit → Shared → Prop} (F : Fly W fs C D h s.heap e d fl) (hQ : ∀ h', Fly W fs C D h h' e d .none → Quiet h fs s.heap h' → Q () { s with heap := h' }) : wpAny (MM w) A (setFlight (.ref e) none) Q E s := by
  refine bc fun hGo => ?_
  obtain ⟨oe, vs, T, oT, ts, he, hc, hdi, hd, h1, hnT, hTe, hTd, hT, hdT, h3, g1⟩ := F.exc
  refine hGo ?_; clear hGo
  have hz : 3 < ts.size := (Array.getElem?_eq_some_iff.mp h3).1
  have other : ∀ b, b ≠ T → (s.heap.update T (Obj.mapFields (·.setIfInBounds 3 ((none : Option Addr).elim Value.none fun f => rawInt f)))).get? b = s.heap.get? b := fun b hb => Heap.get?_update_other _ _ (Ne.symm hb)
  have nT : ∀ b o, h.get? b = some o → b ≠ T := fun b o q z => by rw [z, hnT] at q; cases q
  have hT' := Heap.get?_update_self (Obj.mapFields (·.setIfInBounds 3 ((none : Option Addr).elim Value.none fun f => rawInt f))) hT (Obj.isFreed_of_fields (Obj.data_mapFields hdT _))
  unfold setFlight
  refine wpAny_bind (wpAny_field he hd h1 ?_)
  rw [if_pos (show (Value.ref T != Value.none) = true from by simp)]
  refine wpAny_setField hT hdT hz (hQ _ ⟨fun b o q a c => (other b (nT b o q)).trans (F.keep b o q a c), fun b o q => let ⟨o', q'⟩ := F.live b o q; ⟨o', (other b (nT b o q)).trans q'⟩, fun b o z q => (other b (nT b o q)).trans (F.stab b o z q),
    fun b o q z => let ⟨sl, q'⟩ := F.frame b o q z; ⟨sl, (other b (nT b o q)).trans q'⟩, F.new, F.newd, ⟨oe, vs, T, _, _, (other e (Ne.symm hTe)).trans he, hc, hdi, hd, h1, hnT, hTe, hTd, hT', Obj.data_mapFields hdT _, by simp [hz], fun x t => by
      rw [Array.getElem?_setIfInBounds_ne (by decide)]; exact g1 x t⟩, F.told.go (told_T hT hdT g1 hT' other) fun q => hTd (List.mem_singleton.mp q).symm⟩ ⟨[T], told_T hT hdT g1 hT' other, fun b q => .inr (List.mem_singleton.mp q ▸ hnT)⟩)
theorem Fly.drop {h' : Heap} {env : Env} {fs : List Env} {C e d : Addr} {D : PyData} (ff : FF W h0 fs) (X : Cx g W h0 L m h1) (n : h0.get? L = none) (hf : env.frame = some L) (F : Fly W (env :: fs) C D h1 h' e d .none) : Fly W fs C D h0 h' e d .none := by
  have up : ∀ b o, h0.get? b = some o → b ∉ W → h1.get? b = some o := fun b o q a => X.k.keep b o q fun z => (List.mem_cons.mp z).elim (fun y => by rw [y, n] at q; cases q) a
  obtain ⟨oe, vs, T, oT, ts, he, hc, hdi, hd, a1, hnT, r⟩ := F.exc
  refine ⟨fun b o q a c => F.keep b o (up b o q a) a fun z => ?_, fun b o q => let ⟨o', q'⟩ := X.k.live b o q; F.live b o' q', fun b o z q => F.stab b o z (X.k.stab b o z q), fun b o q z => F.frame b o (up b o q (ff.mem z).1) ?_,
    none_back X.k.live F.new, none_back X.k.live F.newd, ⟨oe, vs, T, oT, ts, he, hc, hdi, hd, a1, none_back X.k.live hnT, r⟩, F.told⟩
  · rw [frs, List.filterMap_cons, hf] at z
    rcases List.mem_cons.mp z with z | z
    · rw [z, n] at q; cases q
    · exact c z
  · rw [frs, List.filterMap_cons, hf]; exact .tail _ z
theorem Fly.more {h h' : Heap} {fs : List Env} {W' : List Addr} {C e d : Addr} {D : PyData} {fl : Value} (F : Fly W fs C D h h' e d fl) (s : ∀ x ∈ W, x ∈ W') : Fly W' fs C D h h' e d fl :=
  ⟨fun b o q a c => F.keep b o q (fun z => a (s b z)) c, F.live, F.stab, F.frame, F.new, F.newd, F.exc, F.told⟩
theorem leave_first {h : Heap} {env : Env} {fs : List Env} {C e d : Addr} {D : PyData} {oe : Obj} {vs : Array Value} {X : List Addr} {Q : Unit → Shared → Prop} (hfr : A.frames = some fs) (ff : FF W h0 fs) (c : Cx g W h0 L m h) (n : h0.get? L = none) (hk : env.scope.kind ≠ .module) (hf : env.frame = some L)
    (k : Keep2 X h s.heap) (sX : ∀ b ∈ X, b ∈ W) (new : h.get? e = none) (newd : h.get? d = none) (told : Told s.heap d D) (he : s.heap.get? e = some oe) (hc : oe.cls = .ref C) (hdi : oe.dict = some d) (hd : oe.data = .fields vs) (h1 : vs[1]? = some .none)
    (hQ : ∀ h', Fly W fs C D h0 h' e d .none → Q () { s with heap := h' }) : wpAny (MM w) (A.deeper env) (leaving env (.ref e)) Q E s :=
  wpAny_bind (note_first (Around.frames_deeper hfr) hf (ff.push c n hk hf) k sX new newd told he hc hdi hd h1 fun _ F => flight_off F fun h' F _ => hQ h' (F.drop ff c n hf))
theorem leave_next {h : Heap} {env : Env} {fs : List Env} {C e d : Addr} {D : PyData} {Q : Unit → Shared → Prop} (hfr : A.frames = some fs) (ff : FF W h0 fs) (c : Cx g W h0 L m h) (n : h0.get? L = none) (hk : env.scope.kind ≠ .module) (hf : env.frame = some L) (F : Fly W (env :: fs) C D h s.heap e d .none)
    (hQ : ∀ h', Fly W fs C D h0 h' e d .none → Quiet h (env :: fs) s.heap h' → Q () { s with heap := h' }) : wpAny (MM w) (A.deeper env) (leaving env (.ref e)) Q E s :=
  wpAny_bind (note_next (Around.frames_deeper hfr) hf (ff.push c n hk hf) F fun _ F k1 => flight_off F fun h' F k2 => hQ h' (F.drop ff c n hf) (k1.trans k2))
theorem Lt.quiet {h h1 h' : Heap} {fs : List Env} {P : Addr} {pos : Pos} {qual : PySem.Str} (x : Lt h1 P pos qual) (k : Quiet h fs h1 h') (a : ∃ o, h.get? P = some o) (n : P ∉ frs fs) : Lt h' P pos qual := by
  obtain ⟨Z, k, z⟩ := k
  exact x.go k fun q => (z P q).elim n fun y => by obtain ⟨o, e⟩ := a; rw [y] at e; cases e
theorem Lt.live {h : Heap} {P : Addr} {pos : Pos} {qual : PySem.Str} (x : Lt h P pos qual) : ∃ o, h.get? P = some o := by
  obtain ⟨_, e, _⟩ := x
  exact ⟨_, e⟩
theorem Lt.fly {h h' : Heap} {fs : List Env} {P C e d : Addr} {D : PyData} {fl : Value} {pos : Pos} {qual : PySem.Str} (x : Lt h P pos qual) (F : Fly W fs C D h h' e d fl) (n : P ∉ W) (nf : P ∉ frs fs) : Lt h' P pos qual := by
  obtain ⟨ps, e, y⟩ := x
  exact ⟨ps, F.keep _ _ e n nf, y.elim .inl fun ⟨c', a, b⟩ => .inr ⟨c', a, codeRec_go (X := W ++ frs fs) ⟨fun b o e n => F.keep b o e (fun q => n (List.mem_append_left _ q)) fun q => n (List.mem_append_right _ q), F.live, F.stab⟩ b⟩⟩
theorem FF.nlt {h : Heap} {fs : List Env} {P : Addr} (x : FF W h fs) (n : P ∈ W) : P ∉ frs fs := fun q => (x.mem q).1 n
end
section
abbrev gfMro : List Value := [.ref 47, .type "Exception", .type "BaseException", .type "object"]
abbrev gfObj : Obj := excClassObj (ofString "GrammarFault") (ofString "GrammarFault") 72 71 [.ref 47] gfMro true [] [] false none none (some (.ref 63)) none (some (.str (ofString "GrammarFault") 252)) (some (.str (ofString "GrammarFault") 260)) (some (.bool true)) "Exception.__new__"
theorem gf_at (w : World) : (K w.params).lookup 72 = some gfObj := (f72 w).trans rfl
theorem gf_init (w : World) : findIn (K w.params) (.ref 72) "__init__" = some (some (.ref 37)) := by kernel_rfl
theorem gf_exc : (Value.ref 72 :: gfMro).contains (.type "Exception") = true := by kernel_rfl
theorem gf_base : (Value.ref 72 :: gfMro).contains (.type "BaseException") = true := by kernel_rfl
theorem gf_noA : (Value.ref 72 :: gfMro).contains (.type "AttributeError") = false := by kernel_rfl
theorem gf_noN : (Value.ref 72 :: gfMro).contains (.type "NameError") = false := by kernel_rfl
variable {w : World} {A : Around} {E : Value → Shared → Prop} {h : Heap} {gn : Array GenState} {d : Drawn} {t : Nat} {os : OsState} {rest : List Value}
theorem gf_check_new {Q : Unit → Shared → Prop} (hC : h.get? 72 = some gfObj) (hq : Q () ⟨h, gn, d, t, os⟩) : wpAny (MM w) A (checkBuiltinCall "Exception.__new__" ⟨.ref 72 :: rest, []⟩) Q E ⟨h, gn, d, t, os⟩ := by
  have F := PySem.F.excBase_Exception
  have hstar := F.noStar
  have hcont := gf_exc
  simp only [checkBuiltinCall, F.newKind, F.newSplit, F.newRow]
  repeat (first | refine wpAny_loadPart_at hC ?_ | (refine wpAny_isSubtype_exc hC ?_; rw [hcont]) | refine wpAny_staticBase_exc hC ?_ | refine wpAny_madeBy_exc hC ?_ | simp only [bne_self_eq_false, Bool.false_eq_true, if_false] | wp_step)
  exact hq
theorem gf_new {R : Result → Shared → Prop} (hC : h.get? 72 = some gfObj)
    (hq : R (.ok (.ret (.ref (h.objs.size + 1)))) ⟨(h.push { cls := .type "tuple", data := .seq rest.toArray }).push { cls := .ref 72, data := .fields #[.ref h.objs.size, .none, .none, .none, .bool false, .none] }, gn, d, t, os⟩) (hrest : rest.length ≤ sizeLine) :
    codeAny (MM w) A (.builtin "Exception.__new__" ⟨.ref 72 :: rest, []⟩) R ⟨h, gn, d, t, os⟩ := by
  have F := PySem.F.excBase_Exception
  have hends := F.ends
  have hcB := gf_exc
  have hcA := gf_noA
  have hcN := gf_noN
  refine codeAny_builtinAt F.entry ?_
  unfold Builtin.«BaseException.__new__»
  refine PySem.wpAt_bind ?_
  show PySem.wpAt _ _ _ (stack >>= _) _ _ _
  refine PySem.wpAt_bind (PySem.wpAt_stack fun p below => PySem.wpAt_of_wpAny ?_)
  wp_walk
  refine PySem.wpAt_of_wpAny ?_
  rw [F.owner]
  repeat (first | with_reducible refine wpAny_madeHere_exc F.canon hC ?_ | with_reducible refine wpAny_loadPart_at hC ?_ | (with_reducible refine wpAny_isSubtype_exc hC ?_; first | rw [hcB] | rw [hcA] | rw [hcN]) | wp_step)
  show R _ _
  rw [Heap.size_push]
  exact hq
end
section
variable {w : World} {A : Around} {E : Value → Shared → Prop} {s : Shared} {h : Heap} {gn : Array GenState} {d : Drawn} {t : Nat} {os : OsState} {rest : List Value}
theorem gf_check_init {e : Addr} {oe : Obj} {Q : Unit → Shared → Prop} (hC : h.get? 72 = some gfObj) (he : h.get? e = some oe) (hcls : oe.cls = .ref 72) (hq : Q () ⟨h, gn, d, t, os⟩) :
    wpAny (MM w) A (checkBuiltinCall "Exception.__init__" ⟨.ref e :: rest, []⟩) Q E ⟨h, gn, d, t, os⟩ := by
  have F := PySem.F.excBase_Exception
  have hcB := gf_exc
  have hshort := F.noStar
  simp only [checkBuiltinCall, F.initKind, F.initSplit, F.initRow]
  repeat (first | (with_reducible refine wpAny_loadPart_at he ?_; rw [hcls]) | with_reducible refine wpAny_loadPart_at hC ?_ | (with_reducible refine wpAny_isSubtype_exc hC ?_; rw [hcB]) | wp_step)
  refine wpAny_onRaise ?_
  rw [show ∀ (a b : String) (n : Nat), Bind.check ⟨.positional, "*", "Exception", .self, [⟨"args", .varPos, false⟩]⟩ a b n (List.map (fun x => x.fst) ({ pos := Value.ref e :: rest } : Args).kw) = pure () from
    fun a b n => check_star_args _ _ _ _ _ _]
  exact wpAny_pure hq
abbrev excO (t : Addr) (d : Option Addr) : Obj := { cls := .ref 72, dict := d, data := .fields #[.ref t, .none, .none, .none, .bool false, .none] }
theorem excO_ns {t : Addr} {d : Option Addr} : ¬ Stab (excO t d) := fun z => by obtain ⟨x, u, q⟩ := z; cases q
theorem keep_upd {h : Heap} {e : Addr} {o o' : Obj} {f : Obj → Obj} (he : h.get? e = some o) (ns : ¬ Stab o) (hf : f o = o') (nf : o'.isFreed = false) : Keep2 [e] h (h.update e f) ∧ (h.update e f).get? e = some o' := by
  have e1 := Heap.get?_update_self f he (by rw [hf]; exact nf)
  rw [hf] at e1
  refine ⟨⟨fun b o q n => (Heap.get?_update_other _ _ (fun z => n (by rw [z]; exact .head _))).trans q, fun b o q => ?_, fun b o y q => ?_⟩, e1⟩
  · by_cases z : b = e
    · subst z; exact ⟨_, e1⟩
    · exact ⟨o, (Heap.get?_update_other _ _ (Ne.symm z)).trans q⟩
  · by_cases z : b = e
    · subst z; rw [he] at q; cases q; exact absurd y ns
    · exact (Heap.get?_update_other _ _ (Ne.symm z)).trans q
theorem gf_super {e t0 : Addr} {v : Value} {Q : Value → Shared → Prop} (hC : s.heap.get? 72 = some gfObj) (he : s.heap.get? e = some (excO t0 none))
    (h : ∀ h' t, Keep2 [e] s.heap h' → h'.get? e = some (excO t none) → Q .none { s with heap := h' }) : wpAny (MM w) A (call (.builtin "Exception.__init__") [.ref e, v]) Q E s := by
  have F := PySem.F.excBase_Exception
  refine bc fun hGo => ?_
  obtain ⟨hh, gn, dd, tk, os⟩ := s
  refine hGo ?_; clear hGo
  refine wpAny_call (codeAny_call_builtin F.init.plain F.initEntry (gf_check_init hC he rfl ?_))
  unfold Builtin.«BaseException.__init__»
  wp_walk
  have he' : (hh.push { cls := .type "tuple", data := .seq [v].toArray }).get? e = some (excO t0 none) := Heap.get?_push_of_some _ he
  refine bc fun hGo => ?_
  obtain ⟨k, e1⟩ := keep_upd (f := Obj.mapFields (·.setIfInBounds 0 (.ref hh.objs.size))) (o' := excO hh.objs.size none) he' excO_ns rfl rfl
  refine hGo ?_; clear hGo
  exact h _ hh.objs.size ((Keep2.push _).trans k) e1
theorem gf_call {rest : List Value} {Q : Value → Shared → Prop} (X : (K w.params).In s.heap) (hz : rest.length ≤ sizeLine)
    (h : ∀ e t h', s.heap.get? e = none → Keep2 [] s.heap h' → h'.get? e = some (excO t none) →
      wpAny (MM w) (A.under (.builtin "type.__call__" ⟨.ref 72 :: rest, []⟩)) (call (.ref 37) (.ref e :: rest)) (fun r s' => r = .none ∧ Q (.ref e) s') E { s with heap := h' }) : wpAny (MM w) A (call (.ref 72) rest) Q E s := by
  have F := PySem.F.excBase_Exception
  refine bc fun hGo => ?_
  obtain ⟨hh, gn, dd, tk, os⟩ := s
  refine hGo ?_; clear hGo
  have hC : hh.get? 72 = some gfObj := X _ _ (gf_at w)
  have f1 := tc_lookup
  have f2 := tc_bind (.ref 72)
  have hT : (⟨hh, gn, dd, tk, os⟩ : Shared).TypeIs (.ref 72) "type" := ⟨_, hC, rfl⟩
  refine wpAny_call (codeAny_of_tree ?_)
  show wpAny _ _ (callAny (.ref 72) _) _ _ _
  repeat (any_goals (first | assumption | with_reducible refine wpAny_loadPart_at hC ?_ | wp_step))
  refine ⟨rfl, ?_⟩
  refine codeAny_call_builtin_at (Code.quiet_builtin _ (by decide +kernel)) entry_typeCall (wpAny_check_type_call_sub hC ?_)
  repeat (first | with_reducible refine wpAny_loadPart_at hC ?_ | with_reducible refine wpAny_madeBy_exc hC ?_ | wp_step)
  refine codeAny_call_builtin_code (Code.quiet_builtin _ F.quiet) (gf_check_new hC ?_)
  refine gf_new hC ?_ hz
  show wpAny _ _ _ _ _ _
  have k1 : Keep2 [] hh ((hh.push { cls := .type "tuple", data := .seq rest.toArray }).push { cls := .ref 72, data := .fields #[.ref hh.objs.size, .none, .none, .none, .bool false, .none] }) := (Keep2.push _).trans (Keep2.push _)
  have hC₁ := k1.keep _ _ hC List.not_mem_nil
  have X₁ : (K w.params).In ((hh.push { cls := .type "tuple", data := .seq rest.toArray }).push { cls := .ref 72, data := .fields #[.ref hh.objs.size, .none, .none, .none, .bool false, .none] }) := fun b o e => k1.keep _ _ (X b o e) List.not_mem_nil
  have hget : ((hh.push { cls := .type "tuple", data := .seq rest.toArray }).push { cls := .ref 72, data := .fields #[.ref hh.objs.size, .none, .none, .none, .bool false, .none] }).get? (hh.objs.size + 1) = some (excO hh.objs.size none) := by heap_get
  have hcC : (Value.ref 72 :: gfMro).contains (.ref 72) = true := by kernel_rfl
  unfold isInstance
  repeat (first | with_reducible refine wpAny_loadPart_at hget ?_ | wp_step)
  show wpAny _ _ (isSubtype (.ref 72) (.ref 72)) _ _ _
  refine wpAny_isSubtype_exc hC₁ ?_
  rw [hcC]
  repeat wp_step
  show wpAny _ _ (typeLookup (.ref 72) _) _ _ _
  refine (looks_findIn X₁ (gf_init w)).here ?_
  refine wpAny_holding (wpAny_bind ((bind_fn X₁ _ (by kernel_rfl)).here ?_))
  refine wpAny_bind (wpAny_mono (h (hh.objs.size + 1) hh.objs.size _ ?_ k1 hget) (fun r s' hr => ?_) fun _ _ x => x)
  · exact Heap.get?_none_of_le (Nat.le_succ _)
  · obtain ⟨rfl, hQ⟩ := hr
    wp_walk
    exact hQ
theorem gf_refuse (self : Value) : refuseLoop self "__setattr__" (.ref 72 :: gfMro) = pure () := by
  rw [refuseLoop_ref]
  unfold gfMro
  rw [refuseLoop_ref]
  kernel_rfl
open Builtin Builtin.ObjectAttr in
theorem gf_osa {R : Result → Shared → Prop} {x : Addr} {ox : Obj} {name : PySem.Str} {tk : Tok} {v : Value} (X : (K w.params).In s.heap) (hx : s.heap.get? x = some ox) (hcl : ox.cls = .ref 72) (ht : takerIn (K w.params) 72 name = some none)
    (h : ∀ b, wpAny (MM w) A.in1 (storeInOwnDict (.ref x) (.ref 72) (.str name tk) name v b)
      (fun fin s' => match fin with | .done f => R (.ok f) s' | .again c' => c'.quiet = true ∧ codeAny (MM w) A c' R s') (fun e s' => R (.error e) s') s) :
    codeAny (MM w) A (.call (.builtin "object.__setattr__") ⟨[.ref x, .str name tk, v], []⟩) R s := by
  have SF := PySem.F.store_object
  have hC := X _ _ (gf_at w)
  have It : Looks (MM w) s.heap (typeOf (.ref x)) (.ref 72) := hcl ▸ (Looks.ld hx).andThen .now
  have hc : clsIn (K w.params) 72 = some (match gfObj.data with | .cls cd => cd | _ => default) := by unfold clsIn; rw [gf_at w]
  have sub : Looks (MM w) s.heap (isInstance (.ref x) (.type "object")) true := It.andThen (looks_mroIn X (by unfold mroIn; rw [hc]; kernel_rfl))
  refine codeAny_call_builtin SF.slot.plain SF.entry (@check_slot (MM w) _ _ s "object.__setattr__" "object" "__setattr__" (.ref x) [.str name tk, v] [] _ SF.kind SF.split sub (SF.args (.ref x) (.str name tk) v) ?_)
  refine bc fun hGo => ?_
  obtain ⟨attr, ha, hr⟩ := Option.bind_eq_some_iff.mp ht
  refine hGo ?_; clear hGo
  have hm : Looks (MM w) s.heap (mroOf (.ref 72)) (.ref 72 :: gfMro) := (looks_clsIn X hc).andThen .now
  have L3 : Looks (MM w) s.heap (storeTaker? attr) none := by
    cases attr with
    | none => cases hr; exact .now
    | some a =>
      obtain ⟨b, hb, z⟩ := Option.map_eq_some_iff.mp hr
      refine (looks_takesIn X hb).andThen ?_
      cases b
      · exact .now
      · cases z
  rw [osa_eq, refuse_eq]
  refine wpAny_bind (wpAny_bind (It.here (wpAny_bind (hm.here ?_))))
  rw [gf_refuse]
  refine wpAny_pure (wpAny_bind (It.here (wpAny_bind ((looks_findIn X ha).here (wpAny_bind (L3.here ?_))))))
  exact h _
open Builtin Builtin.ObjectAttr in
theorem put_in {d : Addr} {es es' : List DictEntry} {n n' : Nat} {name : PySem.Str} {tk : Tok} {v : Value} {Q : Fin → Shared → Prop} (e : s.heap.get? d = some (dictOf es n)) (hl : (getL name es).isSome = true)
    (hput : (putL name (PyData.keyHash w.params name) (.str name s.toks) v es, putN name es n) = (es', n')) (hz : es'.length ≤ 1000)
    (h : ∀ h', Keep2 [d] s.heap h' → h'.get? d = some (dictOf es' n') → Q (.done (.ret .none)) { s with heap := h', toks := s.toks + 1 }) : wpAny (MM w) A (storeInDict d (.str name tk) name v) Q E s := by
  refine bc fun hGo => ?_
  obtain ⟨e1, e2⟩ := Prod.mk.inj hput
  refine hGo ?_; clear hGo
  have hp : Obj.putName name (PyData.keyHash w.params name) (.str name s.toks) v (dictOf es n) = dictOf es' n' := by rw [putName_dict, e1, e2]
  refine bc fun hGo => ?_
  obtain ⟨k, D'⟩ := keep_upd (f := Obj.putName name (PyData.keyHash w.params name) (.str name s.toks) v) e (fun z => z) hp rfl
  refine hGo ?_; clear hGo
  unfold storeInDict
  refine wpAny_bind (wpAny_pure (wpAny_bind ?_))
  unfold nsSet
  refine wpAny_bind (wpAny_bind (wpAny_askSetting (wpAny_pure (wpAny_bind (wpAny_mkText (wpAny_bind (wpAny_loadPart e ?_)))))))
  have c : (!es.toArray.any (·.key.isStr name) && es.toArray.any (·.refKey)) = false := by
    have hl' : (lookIn name (dictOf es n)).isSome = true := by rw [lookIn_dict]; exact hl
    unfold lookIn at hl'
    dsimp only at hl'
    split at hl'
    · rename_i en he
      rw [← Array.any_toList, List.any_eq_true.mpr ⟨en, List.mem_of_find?_eq_some he, List.find?_some he⟩]; rfl
    · split at hl'
      · cases hl'
      · rename_i z; rw [Bool.not_eq_true] at z; rw [show es.toArray.any (fun x : DictEntry => x.refKey) = false from by rw [← Array.any_toList]; exact z, Bool.and_false]
  dsimp only
  rw [aRefKeyMayBeTheName_at, c]
  refine wpAny_updatePart e ?_
  refine wpAny_bind (wpAny_lookBehind D' (pastItsLine_dict (by rw [List.size_toArray, PySem.sizeLine_eq]; omega)) ?_)
  exact wpAny_pure (h _ k D')
def gfDict (w : World) (v1 v2 : Value) (t0 t1 : Tok) : List DictEntry := [⟨kh w "what", .str "what" t0, v1⟩, ⟨kh w "at", .str "at" t1, v2⟩]
open Builtin Builtin.ObjectAttr in
theorem gf_set1 {e t0 : Addr} {v : Value} {Q : Unit → Shared → Prop} (X : (K w.params).In s.heap) (he : s.heap.get? e = some (excO t0 none))
    (h : ∀ h' d t1, Keep2 [e] s.heap h' → s.heap.get? d = none → h'.get? e = some (excO t0 (some d)) → h'.get? d = some (dictOf [⟨kh w "what", .str "what" t1, v⟩] 1) → Q () { s with heap := h', toks := s.toks + 2 }) :
    wpAny (MM w) A (setAttr (.ref e) "what" v) Q E s := by
  have I : InstAt s.heap e (excO t0 none) 72 none := ⟨he, rfl, rfl, trivial⟩
  refine set_plain X I (by kernel_rfl) (gf_osa X he rfl (by kernel_rfl) fun b => ?_)
  have hc : clsIn (K w.params) 72 = some (match gfObj.data with | .cls cd => cd | _ => default) := by unfold clsIn; rw [gf_at w]
  refine wpAny_bind (wpAny_pure (wpAny_bind (wpAny_bind (wpAny_loadPart he (wpAny_bind (looks_clsIn (M := MM w) X hc _ _ _ _ (fun _ _ e => e) ?_))))))
  have he1 := Heap.get?_push_of_some emptyDict he
  refine bc fun hGo => ?_
  obtain ⟨k, e1⟩ := keep_upd (f := fun o => { o with dict := some s.heap.objs.size }) (o' := excO t0 (some s.heap.objs.size)) he1 excO_ns rfl rfl
  refine hGo ?_; clear hGo
  have nd : s.heap.get? s.heap.objs.size = none := none_of_size
  have hD : ((s.heap.push emptyDict).update e fun o => { o with dict := some s.heap.objs.size }).get? s.heap.objs.size = some (dictOf [] 0) := by
    rw [Heap.get?_update_other _ _ (Nat.ne_of_lt (Heap.lt_size he))]
    exact Heap.get?_push_size _ rfl
  refine wpAny_bind (wpAny_alloc (wpAny_bind (wpAny_update he1 (wpAny_pure ?_))))
  have nd' : s.heap.objs.size ≠ e := fun q => by rw [q, he] at nd; cases nd
  refine put_in (s := ⟨_, s.gens, s.drawn, s.toks + 1, s.os⟩) hD rfl (Prod.ext rfl rfl) (by simp [putL]) fun h' k' D' => ?_
  exact h h' s.heap.objs.size (s.toks + 1) ⟨fun b o q n => k'.keep b o (k.keep b o (Heap.get?_push_of_some _ q) n) (fun z => by rw [List.mem_singleton.mp z, nd] at q; cases q), fun b o q => let ⟨o', q'⟩ := k.live b o (Heap.get?_push_of_some _ q); k'.live b o' q',
    fun b o y q => k'.stab b o y (k.stab b o y (Heap.get?_push_of_some _ q))⟩ nd (k'.keep _ _ e1 fun z => nd' (List.mem_singleton.mp z).symm) D'
open Builtin Builtin.ObjectAttr in
theorem gf_set2 {e t0 d : Addr} {v1 v : Value} {t1 : Tok} {Q : Unit → Shared → Prop} (X : (K w.params).In s.heap) (he : s.heap.get? e = some (excO t0 (some d))) (hd : s.heap.get? d = some (dictOf [⟨kh w "what", .str "what" t1, v1⟩] 1))
    (h : ∀ h' t2, Keep2 [d] s.heap h' → h'.get? e = some (excO t0 (some d)) → h'.get? d = some (dictOf (gfDict w v1 v t1 t2) 2) → Q () { s with heap := h', toks := s.toks + 2 }) :
    wpAny (MM w) A (setAttr (.ref e) "at" v) Q E s := by
  have I : InstAt s.heap e (excO t0 (some d)) 72 (some (dictOf [⟨kh w "what", .str "what" t1, v1⟩] 1)) := ⟨he, rfl, rfl, hd⟩
  refine set_plain X I (by kernel_rfl) (gf_osa X he rfl (by kernel_rfl) fun b => ?_)
  have hc : clsIn (K w.params) 72 = some (match gfObj.data with | .cls cd => cd | _ => default) := by unfold clsIn; rw [gf_at w]
  have nd : d ≠ e := fun q => by rw [q, he] at hd; cases hd
  refine wpAny_bind (wpAny_pure (wpAny_bind (wpAny_bind (wpAny_loadPart he (wpAny_bind (looks_clsIn (M := MM w) X hc _ _ _ _ (fun _ _ e => e) ?_))))))
  refine wpAny_pure (a := some d) ?_
  refine put_in (es' := gfDict w v1 v t1 (s.toks + 1)) (n' := 2) (s := ⟨s.heap, s.gens, s.drawn, s.toks + 1, s.os⟩) hd rfl (Prod.ext rfl rfl) (by simp [gfDict]) fun h' k' D' => ?_
  exact h h' (s.toks + 1) k' (k'.keep _ _ he fun z => nd (List.mem_singleton.mp z).symm) D'
theorem bexc_ga_canon : (Value.builtin "BaseException.__getattribute__" == Value.builtin "object.__getattribute__") = false := by decide +kernel
open Builtin Builtin.ObjectAttr in
theorem gf_get {e : Addr} {oe : Obj} {C' : Addr} {d : Addr} {es : List DictEntry} {n : Nat} {v : Value} {Q : Value → Shared → Prop} (X : (K w.params).In s.heap) (he : s.heap.get? e = some oe) (hc : oe.cls = .ref 72) (hdi : oe.dict = some d) (hn : notCls oe = true)
    (hd : s.heap.get? d = some (dictOf es n)) (hl : getL "at" es = some (some v)) (hv : handedIn v = true) (h : Q v { s with toks := s.toks + 1 }) : wpAny (MM w) A (getAttr (.ref e) "at" true) Q E s := by
  have I : InstAt s.heap e oe 72 (some (dictOf es n)) := ⟨he, hc, hn, by rw [hdi]; exact hd⟩
  unfold getAttr
  refine wpAny_bind (wpAny_mkText ?_)
  unfold getAttrBy
  refine wpAny_holding (wpAny_bind ?_)
  refine I.type _ _ _ _ (fun _ _ e => e) (wpAny_bind ?_)
  refine looks_findIn X (r := some (.builtin "BaseException.__getattribute__")) (by kernel_rfl) _ _ _ _ (fun _ _ e => e) ?_
  dsimp only
  rw [bexc_ga_canon, Bool.and_false]
  unfold getAttrByItsOwn
  have GA := PySem.F.attr_Exception.ga
  have hh : findIn (K w.params) (.ref 72) "__getattr__" = some none := by kernel_rfl
  have hc' : clsIn (K w.params) 72 = some (match gfObj.data with | .cls cd => cd | _ => default) := by unfold clsIn; rw [gf_at w]
  have It : Looks (MM w) s.heap (typeOf (.ref e)) (.ref 72) := I.type
  have sub : Looks (MM w) s.heap (isInstance (.ref e) (.type "BaseException")) true := It.andThen (looks_mroIn X (by unfold mroIn; rw [hc']; kernel_rfl))
  have L1 := looks_find (M := MM w) X I (findObj_own (name := "at") (attr := none) (by kernel_rfl) (by kernel_rfl) (by rfl) (show lookIn "at" (dictOf es n) = some (some v) from by rw [lookIn_dict]; exact hl))
  refine wpAny_bind (looks_findIn X hh _ _ _ _ (fun _ _ e => e) ?_)
  refine wpAny_bind (wpAny_attempt (wpAny_holding ?_))
  show wpAny _ _ (boundAndCalled _ _ _) _ _ _
  unfold boundAndCalled
  rw [GA.bind]
  refine wpAny_bind (wpAny_pure (wpAny_call ?_))
  refine codeAny_call_builtin GA.plain PySem.F.entry_bexc_ga (@check_slot (MM w) _ _ _ "BaseException.__getattribute__" "BaseException" "__getattribute__" (.ref e) [.str "at" s.toks] [] _ (by decide +kernel) (by decide +kernel) sub (PySem.F.args_bexc_ga _ _) ?_)
  refine wpAny_bind (wpAny_pure (wpAny_bind (wpAny_pure (wpAny_bind (It _ _ _ _ (fun _ _ e => e) (wpAny_bind (L1 _ _ _ _ (fun _ _ e => e) ?_)))))))
  refine wpAny_pure ?_
  show wpAny _ _ (handedOut v) _ _ _
  rw [handedOut_of hv]
  exact wpAny_pure h
end
theorem m_type {T : String} {name : PySem.Str} {v : Value} {pl : Sem Bool} {Q : Value × List Value → Shared → Prop} (X : (K w.params).In s.heap) (ht : typeOf (.type T) = pure (.type "type")) (hs : Manifest.isStub T = false)
    (e : findCls (K w.params) (.type T) (.type "type") name = some (.val v)) (hh : handedIn v = true) (h : Q (v, []) { s with toks := s.toks + 1 }) : wpAny (MM w) A (getMethod (.type T) name pl) Q E s := by
  have LO : Looks (MM w) s.heap (opaqueClassAbove (.type T)) none := Looks.of_pure (by unfold opaqueClassAbove; dsimp only; rw [hs]; rfl)
  have L0 : Looks (MM w) s.heap (typeOf (.type T)) (.type "type") := Looks.of_pure ht
  have hg : findIn (K w.params) (.type "type") "__getattribute__" = some (some (.builtin "type.__getattribute__")) := type_tga
  unfold getMethod specialOf
  refine wpAny_bind (wpAny_bind (L0.here ((looks_findIn X hg).here ?_)))
  dsimp only
  rw [if_pos canon_tga]
  refine wpAny_bind (wpAny_mono (Q := fun v => Q (v, [])) (E := E) ?_ (fun _ _ z => wpAny_pure z) fun _ _ z => z)
  refine cls_open X LO L0 hg (looks_hook X (r := none) (by rfl)) (by show subIn (K w.params) _ _ = _; rfl) e ?_
  refine wpAny_pure ?_
  show wpAny _ _ (handedOut v) _ _ _
  rw [handedOut_of hh]
  exact wpAny_pure h
theorem raise_inst {env : Env} {x : PySem.Expr} {pos : Pos} {Q : Flow → Shared → Prop} (hh : A.handled = none)
    (h : wpAny (MM w) A (eval x env) (fun v s₁ => ∃ e t d, v = .ref e ∧ (K w.params).In s₁.heap ∧ s₁.heap.get? e = some (excO t d) ∧ E (.ref e) s₁) E s) : wpAny (MM w) A (exec (.Raise (some x) none pos) env) Q E s := by
  have hcB := gf_base
  rw [arm_exec_Raise]
  refine wpAny_bind (wpAny_standAt ?_)
  unfold raiseStmt
  simp only [evalOpt, Option.map]
  refine wpAny_bind (wpAny_bind (wpAny_mono h (fun v s₁ h₁ => wpAny_bind (wpAny_standAt (wpAny_pure ?_))) fun _ _ x => x))
  refine bc fun hGo => ?_
  obtain ⟨e, t, d, rfl, X, he, hE⟩ := h₁
  obtain ⟨hp, gg, dd, tk, os⟩ := s₁
  refine hGo ?_; clear hGo
  have hC : hp.get? 72 = some gfObj := X _ _ (gf_at w)
  repeat (first | with_reducible refine wpAny_loadPart_at he ?_ | with_reducible refine wpAny_loadPart_at hC ?_ | (with_reducible refine wpAny_isSubtype_exc hC ?_; rw [hcB]) | wp_step)
  exact wpAny_raiseNew_none hh hE
theorem C_newGF {x : PySem.Str} {tx : Tok} {v : Value} {Q : Value → Shared → Prop} (G : Gd w g) (S : St g W s.heap) (hd : A.depth + 2 < recursionLimit)
    (h : ∀ e d t0 h' tk t1 t2, Keep2 [] s.heap h' → s.heap.get? e = none → s.heap.get? d = none → h'.get? e = some (excO t0 (some d)) → h'.get? d = some (dictOf (gfDict w (.str x tx) v t1 t2) 2) → Q (.ref e) { s with heap := h', toks := tk }) : wpAny (MM w) A (call (.ref 72) [.str x tx, v]) Q E s := by
  w_top off
  refine gf_call (G.keeps S.sub).K (by simp [PySem.sizeLine_eq]) ?_
  intro e t0 h0 ne k00 ee
  have ge : g.get? e = none := by
    cases q : g.get? e with
    | none => rfl
    | some o => have z := S.sub _ o q; rw [ne] at z; cases z
  have S1 : St g [e] h0 := ⟨fun b o z => k00.keep b o (S.sub b o z) List.not_mem_nil, fun a q => by rw [List.mem_singleton.mp q]; exact ge, fun a q => by rw [List.mem_singleton.mp q]; exact ⟨_, ee⟩⟩
  refine enterN (W := [e]) [("self", .ref e), ("what", .str x tx), ("at", v)] (s := { s with heap := h0 }) G S1 ((fn_at (S := S1) G (f37 w)).trans rfl) (by kernel_rfl) (by first | walk_at "dr" | (show A.depth + 1 < _; omega)) (BindsTo.of_defaults (T := 30) rfl (fn_at (S := S1) G (f30 w)) rfl rfl rfl) (locs rfl) ?_ (by rfl)
  intro L h₁ tk C nL k0
  have ee1 := k0 _ _ ee
  have eL : e ≠ L := fun q => by rw [q] at ee; rw [ee] at nL; cases nL
  walk1; walk1; walk1; walk1
  refine m_type (v := .builtin "Exception.__init__") (G.keeps C.st.sub).K (by kernel_rfl) (by decide +kernel) (by kernel_rfl) (by decide +kernel) ?_
  refine PyProof.Rows.callWith_method1 ?_
  repeat ((fail_if_success (with_reducible show wpAny _ _ (call _ _) _ _ _)); walk1)
  try dsimp only
  refine gf_super ((G.keeps C.st.sub).K _ _ (gf_at w)) ee1 fun h2 t2 k2 e2 => ?_
  have C2 := C.gs k2
  try dsimp only
  walk1; walk1; walk1; walk1; walk1
  try dsimp only
  refine gf_set1 (G.keeps C2.st.sub).K e2 fun h3 d u1 k3 nd e3 ed3 => ?_
  have C3 := C2.gs k3
  try dsimp only
  walk1; walk1; walk1; walk1; walk1
  try dsimp only
  refine gf_set2 (G.keeps C3.st.sub).K e3 ed3 fun h4 u2 k4 e4 ed4 => ?_
  have nd1 : h₁.get? d = none := none_back k2.live nd
  have nd0 : s.heap.get? d = none := none_back k00.live (none_back (fun b o q => ⟨o, k0 b o q⟩) nd1)
  have dL : d ≠ L := fun q => by rw [q] at nd1; obtain ⟨o, _, _, z, _⟩ := C.ns; rw [nd1] at z; cases z
  have gd : g.get? d = none := none_back (fun b o q => ⟨o, S.sub b o q⟩) nd0
  repeat walk1
  try dsimp only
  refine h e d _ _ _ _ _ ?_ ne nd0 e4 ed4
  have kk : Keep2 [e] h0 h3 := C3.keep nL
  exact ⟨fun b o q _ => k4.keep b o (kk.keep b o (k00.keep b o q List.not_mem_nil) (fun z => by rw [List.mem_singleton.mp z, ne] at q; cases q)) (fun z => by rw [List.mem_singleton.mp z, nd0] at q; cases q), fun b o q => let ⟨o1, q1⟩ := k00.live b o q; let ⟨o2, q2⟩ := kk.live b o1 q1; k4.live b o2 q2, fun b o z q => k4.stab b o z (kk.stab b o z (k00.stab b o z q))⟩
theorem g_tat {Q : Value → Shared → Prop} {a : Addr} {i : Nat} {t : Tx} (G : Gd w g) (S : St g W s.heap) (H : TokAt w g (.ref a) i t) (h : ∀ ata, At s.heap (.ref ata) (.tuple [.int ((i : Int) + 1), .int 12]) → Q (.ref ata) { s with toks := s.toks + 1 }) : wpAny (MM w) A (getAttr (.ref a) "at" true) Q E s := by
  refine bc fun hGo => ?_
  obtain ⟨_, da, ata, k0, k1, k2, k3, k4, k5, k6, k7, n, hv, e1, e2, e3⟩ := H
  refine hGo ?_; clear hGo
  cases hv
  refine rd_attr (G.keeps S.sub) (S.sub _ _ e1) (S.sub _ _ e2) (by kernel_rfl) (by kernel_rfl) (by kernel_rfl) rfl rfl (h ata ?_)
  exact .tuple (S.sub _ _ e3) rfl rfl (.cons (.int _ _) (.cons (.int _ _) .nil))
theorem truthy_toks {t : Tx} {Q : Bool → Shared → Prop} (R : RS w g r D tl nd toks ts) (S : St g W s.heap) (ht : ts[p]? = some t) (h : Q true { s with toks := s.toks + 1 + 1 }) : wpAny (MM w) A (truthy (.ref tl)) Q E s := by
  have hp : p < ts.length := by obtain ⟨q, _⟩ := List.getElem?_eq_some_iff.mp ht; exact q
  have hl := R.len
  have hf := R.few
  refine wpAny_truthy_list (R.isList S) (by rw [List.size_toArray]; omega) ?_
  have : (!toks.toArray.isEmpty) = true := by cases toks with | nil => simp at hl; omega | cons a b => simp
  rw [this]; exact h
theorem said50 : True := by
  k_with "m:eval Attribute Subscript" => (guard_expr on2 =ₛ on2; refine Attribute_any_ ?_)
  k_with "m:truthy ref" => (guard_expr on2 =ₛ on2; (walk_plain_pass; refine truthy_toks ‹_› (Cx.st ‹_›) ‹_› ?_))
  trivial
theorem min_at {b : Int} {t u : Tok} {Q : Value → Shared → Prop} (hh : A.handled = none) (hb : ¬ b < (p : Int)) (h : ∀ h' tk, Keep2 [] s.heap h' → Q (.int p t) { s with heap := h', toks := tk }) : wpAny (MM w) A (call (.builtin "min") [.int p t, .int b u]) Q E s :=
  min_two_ints hh fun h' tk k => by rw [if_neg hb]; exact h h' tk (Keep2.all k)
theorem said51 : True := by
  k_with "m:call builtin:len" => (guard_expr on2 =ₛ on2; (walk_plain_pass; refine call_len_list (RS.isList ‹_› (Cx.st ‹_›)) (by rw [List.size_toArray]; omega) ?_))
  trivial
theorem tok_item {value slice : PySem.Expr} {i : Nat} {t : Tx} {u : Tok} {Q : Value → Shared → Prop} (R : RS w g r D tl nd toks ts) (S : St g W s.heap) (ht : ts[i]? = some t) (h : ∀ a, TokAt w g (.ref a) i t → Q (.ref a) s)
    (hs : subscripted slice false (.ref tl) (.int (i : Int) u) = operate [.ref tl, .int (i : Int) u] (getItem (.ref tl) (.int (i : Int) u)) := by with_unfolding_all rfl) : wpAny (MM w) A (subscriptTail value slice (.ref tl) (.int (i : Int) u)) Q E s := by
  refine bc fun hGo => ?_
  obtain ⟨v, e, T⟩ := R.tok _ _ ht
  refine hGo ?_; clear hGo
  have hi : i < ts.length := by obtain ⟨q, _⟩ := List.getElem?_eq_some_iff.mp ht; exact q
  have hf := R.few
  have T' := T
  refine bc fun hGo => ?_
  obtain ⟨a, _, _, _, _, _, _, _, _, _, _, _, rfl, _⟩ := T
  refine hGo ?_; clear hGo
  exact l_item (R.isList S) (by omega) (by omega) (by rw [Int.toNat_natCast]; exact e) (h a T') hs
theorem said52 : True := by
  k_with "m:callWith builtin:min" => (guard_expr on2 =ₛ on2; refine PyProof.Rows.callWith_method1 ?_)
  k_with "m:callWith builtin:len" => (guard_expr on2 =ₛ on2; refine PyProof.Rows.callWith_method1 ?_)
  k_with "m:call builtin:min" => (guard_expr on2 =ₛ on2; (walk_plain_pass; (refine min_at ‹_› (by rw [List.size_toArray]; omega) ?_; intro hₘ tkₘ kₘ; have Cₘ := Cx.gs ‹_› kₘ; have Hₘ := RD.gs ‹_› kₘ (by walk_at "sm"); try dsimp only)))
  trivial
theorem C_fault {x : PySem.Str} {tx : Tok} {t : Tx} {Q : Value → Shared → Prop} (G : Gd w g) (S : St g W s.heap) (R : RS w g r D tl nd toks ts) (H : RD w s.heap D tl p nd) (hh : A.handled = none) (hd : A.depth + 4 < recursionLimit) (hp : p < 2 ^ 29) (ht : ts[p]? = some t)
    (h : ∀ e d t0 h' tk, Keep2 [] s.heap h' → s.heap.get? e = none → s.heap.get? d = none → h'.get? e = some (excO t0 (some d)) → Told h' d (.tuple [.int ((p : Int) + 1), .int 12]) → Q (.ref e) { s with heap := h', toks := tk }) : wpAny (MM w) A (call (.ref 510) [.ref r, .str x tx]) Q E s := by
  w_top off
  have S1 : St g [] s.heap := S.none
  refine enterN (W := []) [("self", .ref r), ("what", .str x tx)] G S1 ((fn_at G S (f510 w)).trans rfl) (by kernel_rfl) (by walk_at "dq") (BindsTo.of_eq rfl) (locs rfl) ?_ (by rfl)
  intro L h₁ tk C nL k0
  have dL : D ≠ L := ne_of_live H.live nL
  replace H := H.up k0
  have hq := R.lt ht
  have hlen : p < ts.length := by obtain ⟨q, _⟩ := List.getElem?_eq_some_iff.mp ht; exact q
  have hl := R.len
  have hf := R.few
  repeat walk1
  refine tok_item (by assumption) (Cx.st (by assumption)) ht (fun a Ta => ?_) (by with_unfolding_all rfl)
  try dsimp only
  refine g_tat G (Cx.st (by assumption)) Ta fun ata Tt => ?_
  try dsimp only
  repeat walk1
  rename Cx _ _ _ _ _ _ => C4; rename RD _ _ _ _ _ _ => H4
  refine C_newGF G C4.st (by first | walk_at "dr" | (show A.depth + 1 + 2 < _; omega)) fun e d t0 h5 tk5 t1 t2 k5 ne nd ee ed => ?_
  have C5 := C4.gs k5
  repeat walk1
  try dsimp only
  with_reducible show Q _ _
  refine h e d t0 _ _ (C5.keep nL) (none_back C4.k.live ne) (none_back C4.k.live nd) ee ⟨_, _, _, ed, rfl, Tt.go k5⟩
theorem C_refuse_at {x : PySem.Str} {tm tx : Tok} {t : Tx} {m : Nat} {fs : List Env} {Q : Value → Shared → Prop} (G : Gd w g) (S : St g W s.heap) (R : RS w g r D tl nd toks ts) (H : RD w s.heap D tl p nd) (hD : D ∈ W) (hh : A.handled = none) (hd : A.depth + 6 < recursionLimit) (hp : p < 2 ^ 29) (ht : ts[m]? = some t) (hfr : A.frames = some fs) (ff : FF [D] s.heap fs)
    (h : ∀ e d h' tk, Fly [D] fs 72 (.tuple [.int ((m : Int) + 1), .int 12]) s.heap h' e d .none → E (.ref e) { s with heap := h', toks := tk }) : wpAny (MM w) A (call (.ref 433) [.ref r, .int (m : Int) tm, .str x tx]) Q E s := by
  w_top off
  have S1 : St g [D] s.heap := S.less (sub1 hD)
  refine wpAny_call ?_
  refine enter2 (W := [D]) [("reader", .ref r), ("mark", .int (m : Int) tm), ("what", .str x tx)] G S1 ((fn_at G S (f433 w)).trans rfl) (by kernel_rfl) (by walk_at "dq") (BindsTo.of_eq rfl) (locs rfl) ?_ (by decide)
  intro L h₁ tk C nL k0
  have dL : D ≠ L := ne_of_live H.live nL
  replace H := H.up k0
  have hq := R.lt ht
  walk1; walk1; walk1; walk1
  try dsimp only
  refine set_at (p' := m) G C R H (by simp) fun h4 C4 H4 k4 => ?_
  try dsimp only
  walk1; walk1
  refine raise_inst hh ?_
  repeat ((fail_if_success (with_reducible show wpAny _ _ (call _ _) _ _ _)); walk1)
  refine C_fault G C4.st R H4 hh (by first | walk_at "dr" | (show A.depth + 1 + 4 < _; omega)) (by omega) ht fun e d t0 h5 tk5 k5 ne nd ee to => ?_
  have C5 := C4.gs k5
  refine ⟨e, t0, some d, rfl, (G.keeps C5.st.sub).K, ee, ?_⟩
  refine leave_first hfr ff C4 nL (fun q => nomatch q) rfl k5 (fun _ q => nomatch q) ne nd to ee rfl rfl rfl rfl fun h6 F => ?_
  exact h e d h6 _ F
end
theorem nin2b {a b P : Addr} (n : a ≠ P) (m : b ≠ P) : P ∉ [a, b] := fun q => by
  rcases List.mem_cons.mp q with q | q
  · exact n q.symm
  · exact m (List.mem_singleton.mp q).symm
theorem said53 : True := by
  k_with "m:nin2" => first | exact nin2b ‹_› ‹_› | fail "nin2"
  k_with "m:setAttr ref" => (walk_plain_pass; ((with_reducible refine' set_last ?g1 ?g2 ?g3 ?g4 ?g5 ?_); (case g1 => assumption); (case g2 => assumption); (case g3 => walk_at "stab"); (case g4 => walk_at "cd"); (case g5 => simp); intro hₘ Cₘ cdₘ kₘ; have Hₘ := RD.go3 ‹_› kₘ (by walk_at "nin3"); walk_at "more"; try dsimp only))
  trivial
theorem tup_item2 {w : World} {A : Around} {E : Value → Shared → Prop} {s : Shared} {value slice : PySem.Expr} {a : Addr} {ds : List PyData} {d : PyData} {k : Int} {u : Tok} {Q : Value → Shared → Prop} (x : At s.heap (.ref a) (.tuple ds)) (hk : 0 ≤ k) (hj : ds[k.toNat]? = some d) (hz : ds.length < 100) (h : ∀ v, At s.heap v d → Q v s)
    (hs : subscripted slice false (.ref a) (.int k u) = operate [.ref a, .int k u] (getItem (.ref a) (.int k u)) := by with_unfolding_all rfl) :
    wpAny (MM w) A (subscriptTail value slice (.ref a) (.int k u)) Q E s := by
  have e : k = ((k.toNat : Nat) : Int) := by omega
  rw [e]
  exact tup_item x hj hz h (by rw [← e]; exact hs)
theorem said54 : True := by
  k_with "m:subscriptTail" => (walk_plain_pass; refine tup_item2 (by walk_at "at2") (by decide) (by rfl) (by simp) ?_; intro vₘ aₘ; (first | have Tₘ := Ats.add ‹_› aₘ | skip))
  trivial
theorem C_relation {c Dc : Addr} {nm last : Value} {dp : Nat} {a1 : Addr} {d1 d2 : PyData} {y : PySem.Str} {q : Nat} {t2 t3 : Tx} {Q : Value → Shared → Prop} (G : Gd w g) (S : St g W s.heap) (R : RS w g r D tl nd toks ts) (H : RD w s.heap D tl p nd) (hW : ∀ x ∈ ([D, 232, Dc] : List Addr), x ∈ W) (hh : A.handled = none) (hd : A.depth + 13 < recursionLimit) (hp : p < 2 ^ 29) (hc : s.heap.get? c = some (instObj 372 Dc)) (cd : CD w s.heap Dc r nm dp last) (lt : Lt s.heap 232 primPos primQual) (n1 : tokIs ts p "word" "IS" = false) (n2 : tokIs ts p "word" "NOT" = false) (hs : (ts[p]? = some (sg y) ∧ q = p + 1) ∨ (ts[p]? = some (wd (ofString "EQUAL")) ∧ ts[p + 1]? = some (wd (ofString "TO")) ∧ y = ofString "=" ∧ q = p + 2)) (ha : At s.heap (.ref a1) d1) (h2 : ts[q]? = some t2) (o2 : Op t2 d2) (F : Foll ts (q + 1) t3)
    (h : ∀ a h' tk last', Keep2 [D, 232, Dc] s.heap h' → RD w h' D tl (q + 1) nd → Lt h' 232 primPos primQual → CD w h' Dc r nm dp last' → At h' (.ref a) (.tuple [.str (ofString "rel"), .str y, d1, d2]) → Q (.ref a) { s with heap := h', toks := tk }) : wpAny (MM w) A (call (.ref 362) [.ref c, .ref a1]) Q E s := by
  w_top off
  have S1 : St g [D, 232, Dc] s.heap := S.less hW
  refine enterN (W := [D, 232, Dc]) [("self", .ref c), ("subject", .ref a1)] G S1 ((fn_at G S (f362 w)).trans rfl) (by kernel_rfl) (by walk_at "dq") (BindsTo.of_eq rfl) (locs rfl) ?_ (by rfl)
  intro L h₁ tk C nL k0
  have dL : D ≠ L := ne_of_live H.live nL
  replace H := H.up k0
  have cd1 := cd.up k0
  have hc1 := k0 _ _ hc
  have lt1 : Lt h₁ 232 primPos primQual := lt.go (Keep2.all (W := []) k0) (by simp)
  have dDc : D ≠ Dc := cd1.ne_rd H
  have lDc : Dc ≠ L := ne_of_live cd.live nL
  have d232 : D ≠ 232 := lt1.ne_rd H
  have l232 : L ≠ 232 := lt1.ne_ns C.ns
  have c232 : Dc ≠ 232 := cd1.ne_lt lt1
  have kk : Keep2 [] s.heap h₁ := Keep2.all k0
  have hq := R.lt h2
  have T0 : Ats h₁ [(.ref a1, d1)] := Ats.nil.add (At.go kk ha)
  repeat walk1
  try dsimp only
  exact h _ _ _ _ (Cx.keep (by assumption) nL) (by assumption) (by walk_at "lt") (by walk_at "cd") (by walk_at "at2")
theorem said55 : True := by
  k_with "m:carryC" => (intro _ _ _ _ kₘ Hₘ ltₘ cdₘ tₘ; have Cₘ := Cx.gs ‹_› kₘ; walk_at "more"; try dsimp only)
  k_with "m:call ref" => (walk_plain_pass; ((with_reducible show wpAny _ _ (call (Value.ref 362) _) _ _ _); refine C_relation ‹_› (Cx.st ‹_›) ‹_› ‹_› (fun _ h => h) ‹_› (by walk_at "dp") (by walk_at "om") (by walk_at "stab") (by walk_at "cd") (by walk_at "lt") (by walk_at "tk") (by walk_at "tk") ‹_› (by walk_at "at") ‹_› ‹_› ‹_› ?_; walk_at "carryC"))
  trivial
def Pred (ts : List Tx) (p q : Nat) (d1 d : PyData) : Prop :=
  (∃ y q0 t2 d2 t3, ((ts[p]? = some (sg y) ∧ q0 = p + 1) ∨ (ts[p]? = some (wd (ofString "EQUAL")) ∧ ts[p + 1]? = some (wd (ofString "TO")) ∧ y = ofString "=" ∧ q0 = p + 2)) ∧ relS y = true ∧ ts[q0]? = some t2 ∧ Op t2 d2 ∧ Foll ts (q0 + 1) t3 ∧ q = q0 + 1 ∧ d = .tuple [.str (ofString "rel"), .str y, d1, d2]) ∨
  (ts[p]? = some (wd (ofString "IS")) ∧ ts[p + 1]? = some (wd (ofString "NUMERIC")) ∧ q = p + 2 ∧ d = .tuple [.str (ofString "class"), .str (ofString "NUMERIC"), d1]) ∨
  (ts[p]? = some (wd (ofString "IS")) ∧ ts[p + 1]? = some (wd (ofString "ZERO")) ∧ q = p + 2 ∧ d = .tuple [.str (ofString "sign"), .str (ofString "ZERO"), d1])
theorem Pred.place {ts : List Tx} {p q : Nat} {d1 d : PyData} (P : Pred ts p q d1 d) : ∃ k t, k < 2 ∧ Place ts p k ∧ ts[p + k]? = some t ∧
    (relAt t = true ∨ (relAt t = false ∧ clsW (wordOf t) = true) ∨ (relAt t = false ∧ clsW (wordOf t) = false ∧ sgnW (wordOf t) = true)) := by
  rcases P with ⟨y, q0, t2, d2, t3, h, hr, _⟩ | ⟨h0, h1, _⟩ | ⟨h0, h1, _⟩
  · rcases h with ⟨h0, _⟩ | ⟨h0, _⟩
    · refine ⟨0, _, by omega, ⟨_, h0, .inl ⟨by kernel_rfl!, by kernel_rfl!, rfl⟩⟩, h0, .inl ?_⟩
      unfold relAt
      rw [show (sg y).2 = y from rfl, hr, Bool.and_true, show ((sg y).1 == ofString "sign") = true by kernel_rfl!, Bool.true_or]
    · exact ⟨0, _, by omega, ⟨_, h0, .inl ⟨by kernel_rfl!, by kernel_rfl!, rfl⟩⟩, h0, .inl (by kernel_rfl!)⟩
  · exact ⟨1, _, by omega, ⟨_, h0, .inr (.inr ⟨by kernel_rfl!, _, h1, by kernel_rfl!, rfl⟩)⟩, h1, .inr (.inl ⟨by kernel_rfl!, by kernel_rfl!⟩)⟩
  · exact ⟨1, _, by omega, ⟨_, h0, .inr (.inr ⟨by kernel_rfl!, _, h1, by kernel_rfl!, rfl⟩)⟩, h1, .inr (.inr ⟨by kernel_rfl!, by kernel_rfl!, by kernel_rfl!⟩)⟩
theorem C_pred_sign {c Dc : Addr} {nm last : Value} {dp : Nat} {a1 : Addr} {d1 : PyData} {y : PySem.Str} {t2 t3 : Tx} {d2 : PyData} {Q : Value → Shared → Prop} (G : Gd w g) (S : St g W s.heap) (R : RS w g r D tl nd toks ts) (H : RD w s.heap D tl p nd) (hW : ∀ x ∈ ([D, 232, Dc] : List Addr), x ∈ W) (hh : A.handled = none) (hd : A.depth + 14 < recursionLimit) (hp : p < 2 ^ 29) (hc : s.heap.get? c = some (instObj 372 Dc)) (cd : CD w s.heap Dc r nm dp last) (lt : Lt s.heap 232 primPos primQual) (h0 : ts[p]? = some (sg y)) (hr : relS y = true) (h2 : ts[p + 1]? = some t2) (o2 : Op t2 d2) (F : Foll ts (p + 1 + 1) t3) (ha : At s.heap (.ref a1) d1)
    (h : ∀ a h' tk last', Keep2 [D, 232, Dc] s.heap h' → RD w h' D tl (p + 1 + 1) nd → Lt h' 232 primPos primQual → CD w h' Dc r nm dp last' → At h' (.ref a) (.tuple [.str (ofString "rel"), .str y, d1, d2]) → Q (.ref a) { s with heap := h', toks := tk }) : wpAny (MM w) A (call (.ref 355) [.ref c, .ref a1]) Q E s := by
  w_top off
  have S1 : St g [D, 232, Dc] s.heap := S.less hW
  refine enterN (W := [D, 232, Dc]) [("self", .ref c), ("subject", .ref a1)] G S1 ((fn_at G S (f355 w)).trans rfl) (by kernel_rfl) (by walk_at "dq") (BindsTo.of_eq rfl) (locs rfl) ?_ (by rfl)
  intro L h₁ tk C nL k0
  have dL : D ≠ L := ne_of_live H.live nL
  replace H := H.up k0
  have cd1 := cd.up k0
  have hc1 := k0 _ _ hc
  have lt1 : Lt h₁ 232 primPos primQual := lt.go (Keep2.all (W := []) k0) (by simp)
  have dDc : D ≠ Dc := cd1.ne_rd H
  have lDc : Dc ≠ L := ne_of_live cd.live nL
  have d232 : D ≠ 232 := lt1.ne_rd H
  have l232 : L ≠ 232 := lt1.ne_ns C.ns
  have c232 : Dc ≠ 232 := cd1.ne_lt lt1
  have kk : Keep2 [] s.heap h₁ := Keep2.all k0
  have T0 : Ats h₁ [(.ref a1, d1)] := Ats.nil.add (At.go kk ha)
  have hq := R.lt h2
  have pl : Place ts p 0 := ⟨_, h0, .inl ⟨by kernel_rfl!, by kernel_rfl!, rfl⟩⟩
  have hs : (ts[p]? = some (sg y) ∧ p + 1 = p + 1) ∨ (ts[p]? = some (wd (ofString "EQUAL")) ∧ ts[p + 1]? = some (wd (ofString "TO")) ∧ y = ofString "=" ∧ p + 1 = p + 2) := .inl ⟨h0, rfl⟩
  have walk1 : (!clsW (wordOf (sg y))) = true := by kernel_rfl!
  have w2 : (!sgnW (wordOf (sg y))) = true := by kernel_rfl!
  repeat walk1
  try dsimp only
  exact h _ _ _ _ (Cx.keep (by assumption) nL) (by assumption) (by walk_at "lt") (by walk_at "cd") (by walk_at "at2")
theorem C_pred_equal {c Dc : Addr} {nm last : Value} {dp : Nat} {a1 : Addr} {d1 : PyData} {t2 t3 : Tx} {d2 : PyData} {Q : Value → Shared → Prop} (G : Gd w g) (S : St g W s.heap) (R : RS w g r D tl nd toks ts) (H : RD w s.heap D tl p nd) (hW : ∀ x ∈ ([D, 232, Dc] : List Addr), x ∈ W) (hh : A.handled = none) (hd : A.depth + 14 < recursionLimit) (hp : p < 2 ^ 29) (hc : s.heap.get? c = some (instObj 372 Dc)) (cd : CD w s.heap Dc r nm dp last) (lt : Lt s.heap 232 primPos primQual) (h0 : ts[p]? = some (wd (ofString "EQUAL"))) (h1 : ts[p + 1]? = some (wd (ofString "TO"))) (h2 : ts[p + 2]? = some t2) (o2 : Op t2 d2) (F : Foll ts (p + 2 + 1) t3) (ha : At s.heap (.ref a1) d1)
    (h : ∀ a h' tk last', Keep2 [D, 232, Dc] s.heap h' → RD w h' D tl (p + 2 + 1) nd → Lt h' 232 primPos primQual → CD w h' Dc r nm dp last' → At h' (.ref a) (.tuple [.str (ofString "rel"), .str (ofString "="), d1, d2]) → Q (.ref a) { s with heap := h', toks := tk }) : wpAny (MM w) A (call (.ref 355) [.ref c, .ref a1]) Q E s := by
  w_top off
  have S1 : St g [D, 232, Dc] s.heap := S.less hW
  refine enterN (W := [D, 232, Dc]) [("self", .ref c), ("subject", .ref a1)] G S1 ((fn_at G S (f355 w)).trans rfl) (by kernel_rfl) (by walk_at "dq") (BindsTo.of_eq rfl) (locs rfl) ?_ (by rfl)
  intro L h₁ tk C nL k0
  have dL : D ≠ L := ne_of_live H.live nL
  replace H := H.up k0
  have cd1 := cd.up k0
  have hc1 := k0 _ _ hc
  have lt1 : Lt h₁ 232 primPos primQual := lt.go (Keep2.all (W := []) k0) (by simp)
  have dDc : D ≠ Dc := cd1.ne_rd H
  have lDc : Dc ≠ L := ne_of_live cd.live nL
  have d232 : D ≠ 232 := lt1.ne_rd H
  have l232 : L ≠ 232 := lt1.ne_ns C.ns
  have c232 : Dc ≠ 232 := cd1.ne_lt lt1
  have kk : Keep2 [] s.heap h₁ := Keep2.all k0
  have T0 : Ats h₁ [(.ref a1, d1)] := Ats.nil.add (At.go kk ha)
  have hq := R.lt h2
  have pl : Place ts p 0 := ⟨_, h0, .inl ⟨by kernel_rfl!, by kernel_rfl!, rfl⟩⟩
  have hs : (ts[p]? = some (sg (ofString "=")) ∧ p + 2 = p + 1) ∨ (ts[p]? = some (wd (ofString "EQUAL")) ∧ ts[p + 1]? = some (wd (ofString "TO")) ∧ ofString "=" = ofString "=" ∧ p + 2 = p + 2) := .inr ⟨h0, h1, rfl, rfl⟩
  repeat walk1
  try dsimp only
  exact h _ _ _ _ (Cx.keep (by assumption) nL) (by assumption) (by walk_at "lt") (by walk_at "cd") (by walk_at "at2")
theorem C_pred_class {c Dc : Addr} {nm last : Value} {dp : Nat} {a1 : Addr} {d1 : PyData}  {Q : Value → Shared → Prop} (G : Gd w g) (S : St g W s.heap) (R : RS w g r D tl nd toks ts) (H : RD w s.heap D tl p nd) (hW : ∀ x ∈ ([D, 232, Dc] : List Addr), x ∈ W) (hh : A.handled = none) (hd : A.depth + 14 < recursionLimit) (hp : p < 2 ^ 29) (hc : s.heap.get? c = some (instObj 372 Dc)) (cd : CD w s.heap Dc r nm dp last) (lt : Lt s.heap 232 primPos primQual) (h0 : ts[p]? = some (wd (ofString "IS"))) (h1 : ts[p + 1]? = some (wd (ofString "NUMERIC"))) (ha : At s.heap (.ref a1) d1)
    (h : ∀ a h' tk last', Keep2 [D, 232, Dc] s.heap h' → RD w h' D tl (p + 2) nd → Lt h' 232 primPos primQual → CD w h' Dc r nm dp last' → At h' (.ref a) (.tuple [.str (ofString "class"), .str (ofString "NUMERIC"), d1]) → Q (.ref a) { s with heap := h', toks := tk }) : wpAny (MM w) A (call (.ref 355) [.ref c, .ref a1]) Q E s := by
  w_top off
  have S1 : St g [D, 232, Dc] s.heap := S.less hW
  refine enterN (W := [D, 232, Dc]) [("self", .ref c), ("subject", .ref a1)] G S1 ((fn_at G S (f355 w)).trans rfl) (by kernel_rfl) (by walk_at "dq") (BindsTo.of_eq rfl) (locs rfl) ?_ (by rfl)
  intro L h₁ tk C nL k0
  have dL : D ≠ L := ne_of_live H.live nL
  replace H := H.up k0
  have cd1 := cd.up k0
  have hc1 := k0 _ _ hc
  have lt1 : Lt h₁ 232 primPos primQual := lt.go (Keep2.all (W := []) k0) (by simp)
  have dDc : D ≠ Dc := cd1.ne_rd H
  have lDc : Dc ≠ L := ne_of_live cd.live nL
  have d232 : D ≠ 232 := lt1.ne_rd H
  have l232 : L ≠ 232 := lt1.ne_ns C.ns
  have c232 : Dc ≠ 232 := cd1.ne_lt lt1
  have kk : Keep2 [] s.heap h₁ := Keep2.all k0
  have T0 : Ats h₁ [(.ref a1, d1)] := Ats.nil.add (At.go kk ha)
  have hq := R.lt h0
  have pl : Place ts p 1 := ⟨_, h0, .inr (.inr ⟨by kernel_rfl!, _, h1, by kernel_rfl!, rfl⟩)⟩
  repeat walk1
  try dsimp only
  exact h _ _ _ _ (Cx.keep (by assumption) nL) (by assumption) (by walk_at "lt") (by walk_at "cd") (by walk_at "at2")
theorem C_pred_zero {c Dc : Addr} {nm last : Value} {dp : Nat} {a1 : Addr} {d1 : PyData}  {Q : Value → Shared → Prop} (G : Gd w g) (S : St g W s.heap) (R : RS w g r D tl nd toks ts) (H : RD w s.heap D tl p nd) (hW : ∀ x ∈ ([D, 232, Dc] : List Addr), x ∈ W) (hh : A.handled = none) (hd : A.depth + 14 < recursionLimit) (hp : p < 2 ^ 29) (hc : s.heap.get? c = some (instObj 372 Dc)) (cd : CD w s.heap Dc r nm dp last) (lt : Lt s.heap 232 primPos primQual) (h0 : ts[p]? = some (wd (ofString "IS"))) (h1 : ts[p + 1]? = some (wd (ofString "ZERO"))) (ha : At s.heap (.ref a1) d1)
    (h : ∀ a h' tk last', Keep2 [D, 232, Dc] s.heap h' → RD w h' D tl (p + 2) nd → Lt h' 232 primPos primQual → CD w h' Dc r nm dp last' → At h' (.ref a) (.tuple [.str (ofString "sign"), .str (ofString "ZERO"), d1]) → Q (.ref a) { s with heap := h', toks := tk }) : wpAny (MM w) A (call (.ref 355) [.ref c, .ref a1]) Q E s := by
  w_top off
  have S1 : St g [D, 232, Dc] s.heap := S.less hW
  refine enterN (W := [D, 232, Dc]) [("self", .ref c), ("subject", .ref a1)] G S1 ((fn_at G S (f355 w)).trans rfl) (by kernel_rfl) (by walk_at "dq") (BindsTo.of_eq rfl) (locs rfl) ?_ (by rfl)
  intro L h₁ tk C nL k0
  have dL : D ≠ L := ne_of_live H.live nL
  replace H := H.up k0
  have cd1 := cd.up k0
  have hc1 := k0 _ _ hc
  have lt1 : Lt h₁ 232 primPos primQual := lt.go (Keep2.all (W := []) k0) (by simp)
  have dDc : D ≠ Dc := cd1.ne_rd H
  have lDc : Dc ≠ L := ne_of_live cd.live nL
  have d232 : D ≠ 232 := lt1.ne_rd H
  have l232 : L ≠ 232 := lt1.ne_ns C.ns
  have c232 : Dc ≠ 232 := cd1.ne_lt lt1
  have kk : Keep2 [] s.heap h₁ := Keep2.all k0
  have T0 : Ats h₁ [(.ref a1, d1)] := Ats.nil.add (At.go kk ha)
  have hq := R.lt h0
  have pl : Place ts p 1 := ⟨_, h0, .inr (.inr ⟨by kernel_rfl!, _, h1, by kernel_rfl!, rfl⟩)⟩
  repeat walk1
  try dsimp only
  exact h _ _ _ _ (Cx.keep (by assumption) nL) (by assumption) (by walk_at "lt") (by walk_at "cd") (by walk_at "at2")
theorem enterE {R : Result → Shared → Prop} {f c' : Addr} {name qual : PySem.Str} {params : Arguments} {body : PySem.Expr} {scope : Scope} {cl : List (PySem.Str × Addr)} {pm ctv : Value} {args : Args} (binds : List (PySem.Str × Value))
    (G : Gd w g) (S : St g W s.heap) (ho : s.heap.get? f = some (kla_obj name qual params body scope cl pm c' ctv)) (hcd : s.heap.CodeRec (.ref c') qual) (hroom : A.depth < recursionLimit)
    (hbind : bindArgs (kla_fn name qual params body scope cl pm (.ref c') ctv) args = pure binds) (hloc : ∀ y ∈ binds, scope.names.lookup y.1 = some .local)
    (h : ∀ L h₁ tk, Cx g W s.heap L (lk binds.reverse) h₁ → s.heap.get? L = none → (∀ b o, s.heap.get? b = some o → h₁.get? b = some o) →
      wpAny (MM w) (A.deeper (envX qual scope L f (.ref c') cl)) (eval body (envX qual scope L f (.ref c') cl)) (fun v s' => R (.ok (.ret v)) s')
        (fun e s' => wpAny (MM w) (A.deeper (envX qual scope L f (.ref c') cl)) (leaving (envX qual scope L f (.ref c') cl) e) (fun _ s'' => R (.error e) s'') (fun e' s'' => R (.error e') s'') s')
        { s with heap := h₁, toks := tk })
    (hcell : ∀ x ∈ scope.names, x.2 ≠ .cell) (hco : scope.isCoroutine = false := by rfl) (hgen : scope.isGenerator = false := by rfl) (hk : scope.kind = .function := by rfl) : codeAny (MM w) A (.call (.ref f) args) R s := by
  have G' := G.keeps S.sub
  refine kla_callFunE hroom ho rfl hco hgen rfl hcd ?_
  rw [hbind]
  refine wpAny_pure (wpAny_newFunctionEnv hcell hloc (fun h₁ hns hsb => ⟨G'.lim.fresh _ hsb, ?_⟩) hk)
  show codeAny _ _ (.expr body (envX qual scope s.heap.objs.size f (.ref c') cl)) _ _
  have kb : ∀ b o, s.heap.get? b = some o → h₁.get? b = some o := fun b o e => hsb.extBut b o (Nat.ne_of_lt (Heap.lt_size e)) (Heap.get?_push_of_some _ e)
  have nL := none_of_size (h := s.heap)
  have nW : s.heap.objs.size ∉ W := fun q => by obtain ⟨o, e⟩ := S.live _ q; rw [nL] at e; cases e
  have gL : g.get? s.heap.objs.size = none := by
    cases q : g.get? s.heap.objs.size with
    | none => rfl
    | some o => have e := S.sub _ o q; rw [nL] at e; cases e
  exact kla_codeExpr (h _ h₁ _ ⟨hns, ⟨fun b o e => kb b o (S.sub b o e), S.off, fun a q => let ⟨o, e⟩ := S.live a q; ⟨o, kb a o e⟩⟩, nW, gL, Keep2.all kb⟩ nL kb)
def LamAt (h : Heap) (f : Addr) (params : Arguments) (body : PySem.Expr) (scope : Scope) (qual : PySem.Str) (cl : List (PySem.Str × Addr)) : Prop :=
  ∃ pm c' ctv, h.get? f = some (kla_obj "<lambda>" qual params body scope cl pm c' ctv) ∧ h.CodeRec (.ref c') qual
theorem LamAt.go {h h' : Heap} {X : List Addr} {f : Addr} {params : Arguments} {body : PySem.Expr} {scope : Scope} {qual : PySem.Str} {cl : List (PySem.Str × Addr)} (k : Keep2 X h h') (x : LamAt h f params body scope qual cl) : LamAt h' f params body scope qual cl := by
  obtain ⟨pm, c', ctv, e, r⟩ := x
  exact ⟨pm, c', ctv, k.stab _ _ trivial e, codeRec_go k r⟩
theorem LamAt.fn {h : Heap} {f : Addr} {params : Arguments} {body : PySem.Expr} {scope : Scope} {qual : PySem.Str} {cl : List (PySem.Str × Addr)} (x : LamAt h f params body scope qual cl) : FnAt f h := by
  obtain ⟨_, _, _, e, _⟩ := x
  exact ⟨_, _, _, _, e⟩
theorem FnAt.go {h h' : Heap} {X : List Addr} {f : Addr} (k : Keep2 X h h') (x : FnAt f h) : FnAt f h' := by
  obtain ⟨_, _, _, _, e⟩ := x
  exact ⟨_, _, _, _, k.stab _ _ trivial e⟩
abbrev nmParams : Arguments := { posonlyargs := [], args := [{ arg := "name", annotation := none, pos := ⟨307, 46, 307, 50⟩ }, { arg := "qualifiers", annotation := none, pos := ⟨307, 52, 307, 62⟩ }], vararg := none, kwonlyargs := [], kw_defaults := [], kwarg := none, defaults := [] }
abbrev nmBody : PySem.Expr := (PySem.Expr.Name "name" ⟨307, 64, 307, 68⟩).Compare [.In] [(PySem.Expr.Name "reader" ⟨307, 72, 307, 78⟩).Attribute "named" ⟨307, 72, 307, 84⟩] ⟨307, 64, 307, 84⟩
abbrev nmScope : Scope := { kind := .function, names := [("name", .local), ("qualifiers", .local), ("reader", .free)], isGenerator := false, isCoroutine := false }
abbrev nmPos : Pos := ⟨307, 39, 307, 84⟩
abbrev nmQual : PySem.Str := ofString "read_condition" ++ ofString ".<locals>." ++ ofString "<lambda>"
structure NmD (w : World) (g : Heap) (N : Addr) : Prop where
  at_ : ∃ t n, g.get? N = some (dictOf [⟨kh w "DONE", .str "DONE" t, .bool true⟩] n)
  ne : (N == sysModules) = false
structure NmF (h : Heap) (f r : Addr) : Prop where
  at_ : ∃ c, LamAt h f nmParams nmBody nmScope nmQual [("reader", c)] ∧ h.IsCell c (some (.ref r))
theorem NmF.go {h h' : Heap} {X : List Addr} {f r : Addr} (k : Keep2 X h h') (x : NmF h f r) : NmF h' f r := by
  obtain ⟨c, a, b⟩ := x.at_
  exact ⟨c, a.go k, IsCell.go k b⟩
theorem NmF.fn {h : Heap} {f r : Addr} (x : NmF h f r) : FnAt f h := by
  obtain ⟨_, a, _⟩ := x.at_
  exact a.fn
theorem g_named {Q : Value → Shared → Prop} {N : Addr} (G : Gd w g) (S : St g W s.heap) (R : RS w g r D tl nd toks ts) (H : RD w s.heap D tl p (.ref N)) (h : Q (.ref N) { s with toks := s.toks + 1 }) : wpAny (MM w) A (getAttr (.ref r) "named" true) Q E s := by
  refine bc fun hGo => ?_
  obtain ⟨t0, t1, t2, t3, n, e⟩ := H
  refine hGo ?_; clear hGo
  exact rd_attr (G.keeps S.sub) (S.sub _ _ R.inst) e (by kernel_rfl) (by kernel_rfl) (by kernel_rfl) rfl rfl h
theorem in_named {N : Addr} {x : PySem.Str} {t : Tok} {b : Bool} {Q : Value → Shared → Prop} (S : St g W s.heap) (n : NmD w g N) (hb : (ofString "DONE" == x) = b) (h : Q (.bool b) { s with toks := s.toks + 1 }) : wpAny (MM w) A (compareOp .In (.str x t) (.ref N)) Q E s := by
  refine bc fun hGo => ?_
  obtain ⟨u, k, e⟩ := n.at_
  refine hGo ?_; clear hGo
  have hm : s.heap.MapOf (strKind PP w) N (fun k => findBy Value.isStrOf #[⟨kh w "DONE", .str "DONE" u, .bool true⟩] k) :=
    ⟨_, _, _, S.sub _ _ e, ⟨rfl, rfl, rfl⟩, rfl, fun y hy => by
      simp only [List.mem_toArray, List.mem_singleton] at hy
      subst hy
      exact ⟨_, strKind_is PP w _ u, rfl⟩, fun _ => rfl⟩
  refine wpAny_in_of (strKind_is PP w x t) n.ne hm ?_
  have : (findBy Value.isStrOf #[⟨kh w "DONE", .str "DONE" u, .bool true⟩] x).isSome = b := by
    subst hb
    unfold findBy
    simp only [List.find?_toArray, List.find?_cons, List.find?_nil]
    rw [← isStr_of]
    show _ = (ofString "DONE" == x)
    cases q : (Value.str (ofString "DONE") u).isStr x with
    | true => exact q.symm
    | false => exact q.symm
  rw [this]
  exact h
theorem c_lam {env : Env} {pos : Pos} {f : Addr} {first : List Value} {e : PySem.Expr} {rest : List PySem.Expr} {Q : Value → Shared → Prop} (x : FnAt f s.heap)
    (h : wpAny (MM w) A (spliced (backTo pos (starEach (e :: rest) env))) (fun vs s₁ => FnAt f s₁.heap ∧ wpAny (MM w) A (call (.ref f) (first ++ vs)) Q E s₁) E s)
    (he : starEach (e :: rest) env = (false, eval e env) :: starEach rest env := by rfl) (hplain : (backTo pos (starEach rest env)).any (·.1) = false := by rfl) :
    wpAny (MM w) A (callWith pos (.ref f) first (backTo pos (starEach (e :: rest) env)) []) Q E s := callWith_F x h he hplain
theorem C_isnamed {f N : Addr} {x : PySem.Str} {t : Tok} {v2 : Value} {b : Bool} {Q : Value → Shared → Prop} (G : Gd w g) (S : St g W s.heap) (R : RS w g r D tl nd toks ts) (H : RD w s.heap D tl p (.ref N)) (n : NmD w g N) (nf : NmF s.heap f r) (hd : A.depth < recursionLimit) (hb : (ofString "DONE" == x) = b)
    (h : ∀ h' tk, Keep2 [] s.heap h' → Q (.bool b) { s with heap := h', toks := tk }) : wpAny (MM w) A (call (.ref f) [.str x t, v2]) Q E s := by
  w_top off
  refine bc fun hGo => ?_
  obtain ⟨c, ⟨pm, c', ctv, hf, hr⟩, hc⟩ := nf.at_
  refine hGo ?_; clear hGo
  refine wpAny_call ?_
  refine enterE (W := []) [("name", .str x t), ("qualifiers", v2)] G S.none hf hr hd rfl (locs rfl) ?_ (by decide)
  intro L h₁ tk C nL k0
  refine noE ?_
  have dL : D ≠ L := ne_of_live H.live nL
  replace H := H.up k0
  have hc1 : h₁.IsCell c (some (.ref r)) := IsCell.go (Keep2.all (W := []) k0) hc
  walk1; walk1; walk1
  refine n_free (c := c) (by rfl) hc1 ?_ (by kernel_rfl) (by kernel_rfl) (by kernel_rfl) (by kernel_rfl)
  refine g_named G C.st R H ?_
  refine in_named C.st n hb ?_
  repeat walk1
  try dsimp only
  exact h _ _ (Cx.keep (by assumption) nL)
theorem C_predicate {c Dc : Addr} {nm last : Value} {dp : Nat} {a1 : Addr} {d1 d : PyData} {q : Nat} {Q : Value → Shared → Prop} (G : Gd w g) (S : St g W s.heap) (R : RS w g r D tl nd toks ts) (H : RD w s.heap D tl p nd) (hW : ∀ x ∈ ([D, 232, Dc] : List Addr), x ∈ W) (hh : A.handled = none) (hd : A.depth + 14 < recursionLimit) (hp : p < 2 ^ 29) (hc : s.heap.get? c = some (instObj 372 Dc)) (cd : CD w s.heap Dc r nm dp last) (lt : Lt s.heap 232 primPos primQual)  (P : Pred ts p q d1 d) (ha : At s.heap (.ref a1) d1)
    (h : ∀ a h' tk last', Keep2 [D, 232, Dc] s.heap h' → RD w h' D tl q nd → Lt h' 232 primPos primQual → CD w h' Dc r nm dp last' → At h' (.ref a) (d) → Q (.ref a) { s with heap := h', toks := tk }) : wpAny (MM w) A (call (.ref 355) [.ref c, .ref a1]) Q E s := by
  rcases P with ⟨y, q0, t2, d2, t3, hs, hr, h2, o2, F, rfl, rfl⟩ | ⟨h0, h1, rfl, rfl⟩ | ⟨h0, h1, rfl, rfl⟩
  · rcases hs with ⟨h0, rfl⟩ | ⟨h0, h1, rfl, rfl⟩
    · exact C_pred_sign G S R H hW hh hd hp hc cd lt h0 hr h2 o2 F ha h
    · exact C_pred_equal G S R H hW hh hd hp hc cd lt h0 h1 h2 o2 F ha h
  · exact C_pred_class G S R H hW hh hd hp hc cd lt h0 h1 ha h
  · exact C_pred_zero G S R H hW hh hd hp hc cd lt h0 h1 ha h
theorem At.strE {h : Heap} {v : Value} {x : PySem.Str} (a : At h v (.str x)) : ∃ t, v = .str x t := by
  generalize e : ([] : List Addr) = as at a
  cases a with
  | str _ t => exact ⟨t, rfl⟩
theorem tup_str {value slice : PySem.Expr} {a : Addr} {ds : List PyData} {x : PySem.Str} {k : Int} {u : Tok} {Q : Value → Shared → Prop} (y : At s.heap (.ref a) (.tuple ds)) (hk : 0 ≤ k) (hj : ds[k.toNat]? = some (.str x)) (hz : ds.length < 100) (h : ∀ t, Q (.str x t) s)
    (hs : subscripted slice false (.ref a) (.int k u) = operate [.ref a, .int k u] (getItem (.ref a) (.int k u)) := by with_unfolding_all rfl) :
    wpAny (MM w) A (subscriptTail value slice (.ref a) (.int k u)) Q E s :=
  tup_item2 y hk hj hz (fun v e => by obtain ⟨t, rfl⟩ := e.strE; exact h t) hs
theorem Op.place0 {t : Tx} {d : PyData} (o : Op t d) (ht : ts[p]? = some t) : Place ts p 0 ∧ relAt t = false := by
  rcases o with ⟨x, hx, rfl, rfl⟩ | ⟨x, v, hx, rfl, rfl⟩
  · have e : wordOf (wd x) = x := by unfold wordOf; rfl
    unfold Place relAt
    rcases hx with rfl | rfl | rfl | rfl | rfl
    all_goals exact ⟨⟨_, ht, .inl ⟨by kernel_rfl, by kernel_rfl, rfl⟩⟩, by kernel_rfl⟩
  · exact ⟨⟨_, ht, .inl ⟨by kernel_rfl, by kernel_rfl, rfl⟩⟩, by kernel_rfl⟩
theorem said56 : True := by
  k_with "m:call ref" => (walk_plain_pass; (with_reducible show wpAny _ _ (call (Value.ref 355) _) _ _ _); (refine C_predicate ‹_› (Cx.st ‹_›) ‹_› ‹_› (fun _ h => h) ‹_› (by walk_at "dp") (by walk_at "om") (by walk_at "stab") (by walk_at "cd") (by walk_at "lt") ‹_› (by walk_at "at") ?_; walk_at "carryC"))
  k_with "m:subscriptTail" => (walk_plain_pass; refine tup_str (by walk_at "at2") (by decide) (by rfl) (by simp) ?_; intro _)
  trivial
theorem said57 : True := by
  k_with "m:nf" => first | assumption | exact NmF.go ‹_› (by walk_at "nf") | fail "nf"
  k_with "m:FnAt" => first | exact NmF.fn (by walk_at "nf") | fail "FnAt"
  k_with "m:And" => refine ⟨NmF.fn (by walk_at "nf"), ?_⟩
  k_with "m:getMethod ref str" => (walk_plain_pass; (with_reducible show wpAny _ _ (getMethod _ (ofString "is_named") _) _ _ _); refine m_isnamed ‹_› (Cx.st ‹_›) (by walk_at "stab") (by walk_at "cd") ?_)
  k_with "m:getMethod ref" => (walk_plain_pass; (with_reducible show wpAny _ _ (getMethod _ (ofString "is_named") _) _ _ _); refine m_isnamed ‹_› (Cx.st ‹_›) (by walk_at "stab") (by walk_at "cd") ?_)
  k_with "m:callWith ref" => (walk_plain_pass; (fail_if_success (with_reducible show wpAny _ _ (callWith _ (Mine.r (@OfNat.ofNat Nat _ _)) _ _ _) _ _ _)); refine c_lam (NmF.fn (by walk_at "nf")) ?_)
  k_with "m:call ref" => (walk_plain_pass; (with_reducible show wpAny _ _ (call _ [Value.str _ _, _]) _ _ _); (first
      | refine C_isnamed (b := true) ‹_› (Cx.st ‹_›) ‹_› ‹_› ‹_› (by walk_at "nf") (by walk_at "dp") (by kernel_rfl!) ?_
      | refine C_isnamed (b := false) ‹_› (Cx.st ‹_›) ‹_› ‹_› ‹_› (by walk_at "nf") (by walk_at "dp") ‹_› ?_); walk_at "carry")
  trivial
theorem C_unb_named {c Dc : Addr} {nm last : Value} {dp : Nat} {f N : Addr} {t1 : Tx} {Q : Value → Shared → Prop} (G : Gd w g) (S : St g W s.heap) (R : RS w g r D tl nd toks ts) (H : RD w s.heap D tl p nd) (hW : ∀ x ∈ ([D, 232, Dc] : List Addr), x ∈ W) (hh : A.handled = none) (hd : A.depth + 15 < recursionLimit) (hp : p < 2 ^ 29) (hc : s.heap.get? c = some (instObj 372 Dc)) (cd : CD w s.heap Dc r nm dp last) (lt : Lt s.heap 232 primPos primQual) (hnm : nm = .ref f) (hnd : nd = .ref N) (nn : NmD w g N) (nf : NmF s.heap f r) (ht : ts[p]? = some (wd (ofString "DONE"))) (F1 : Foll ts (p + 1) t1)
    (h : ∀ a h' tk last', Keep2 [D, 232, Dc] s.heap h' → RD w h' D tl (p + 1) nd → Lt h' 232 primPos primQual → CD w h' Dc r nm dp last' → At h' (.ref a) (.tuple [.str (ofString "named"), refD (ofString "DONE")]) → Q (.ref a) { s with heap := h', toks := tk }) : wpAny (MM w) A (call (.ref 327) [.ref c]) Q E s := by
  w_top off
  have S1 : St g [D, 232, Dc] s.heap := S.less hW
  refine enterN (W := [D, 232, Dc]) [("self", .ref c)] G S1 ((fn_at G S (f327 w)).trans rfl) (by kernel_rfl) (by walk_at "dq") (BindsTo.of_eq rfl) (locs rfl) ?_ (by rfl)
  intro L h₁ tk C nL k0
  have dL : D ≠ L := ne_of_live H.live nL
  replace H := H.up k0
  have hq := R.lt ht
  have cd1 := cd.up k0
  have hc1 := k0 _ _ hc
  have lt1 : Lt h₁ 232 primPos primQual := lt.go (Keep2.all (W := []) k0) (by simp)
  have dDc : D ≠ Dc := cd1.ne_rd H
  have lDc : Dc ≠ L := ne_of_live cd.live nL
  have d232 : D ≠ 232 := lt1.ne_rd H
  have l232 : L ≠ 232 := lt1.ne_ns C.ns
  have c232 : Dc ≠ 232 := cd1.ne_lt lt1
  have kk : Keep2 [] s.heap h₁ := Keep2.all k0
  subst hnm hnd
  have nf1 : NmF h₁ f r := nf.go kk
  have o : Op (wd (ofString "DONE")) (refD (ofString "DONE")) := .inl ⟨_, .inr (.inr (.inr (.inr rfl))), rfl, rfl⟩
  have hq := R.lt ht
  have f1 := F1.at_
  refine bc fun hGo => ?_
  obtain ⟨pl0, rb⟩ := o.place0 ht
  refine hGo ?_; clear hGo
  have T0 : Ats h₁ [] := Ats.nil
  repeat walk1
  try dsimp only
  with_reducible show Q _ _
  exact h _ _ _ _ (Cx.keep (by assumption) nL) (by assumption) (by walk_at "lt") (by walk_at "cd") (by walk_at "at2")
theorem C_unb_item {c Dc : Addr} {nm last : Value} {dp : Nat} {f N : Addr} {q : Nat} {d : PyData} {x : PySem.Str} {t1 : Tx} {Q : Value → Shared → Prop} (G : Gd w g) (S : St g W s.heap) (R : RS w g r D tl nd toks ts) (H : RD w s.heap D tl p nd) (hW : ∀ x ∈ ([D, 232, Dc] : List Addr), x ∈ W) (hh : A.handled = none) (hd : A.depth + 15 < recursionLimit) (hp : p < 2 ^ 29) (hc : s.heap.get? c = some (instObj 372 Dc)) (cd : CD w s.heap Dc r nm dp last) (lt : Lt s.heap 232 primPos primQual) (hnm : nm = .ref f) (hnd : nd = .ref N) (nn : NmD w g N) (nf : NmF s.heap f r) (ht : ts[p]? = some (wd x)) (hx : isNm x) (hn : (ofString "DONE" == x) = false) (F1 : Foll ts (p + 1) t1) (P : Pred ts (p + 1) q (refD x) d)
    (h : ∀ a h' tk last', Keep2 [D, 232, Dc] s.heap h' → RD w h' D tl q nd → Lt h' 232 primPos primQual → CD w h' Dc r nm dp last' → At h' (.ref a) (d) → Q (.ref a) { s with heap := h', toks := tk }) : wpAny (MM w) A (call (.ref 327) [.ref c]) Q E s := by
  w_top off
  have S1 : St g [D, 232, Dc] s.heap := S.less hW
  refine enterN (W := [D, 232, Dc]) [("self", .ref c)] G S1 ((fn_at G S (f327 w)).trans rfl) (by kernel_rfl) (by walk_at "dq") (BindsTo.of_eq rfl) (locs rfl) ?_ (by rfl)
  intro L h₁ tk C nL k0
  have dL : D ≠ L := ne_of_live H.live nL
  replace H := H.up k0
  have hq := R.lt ht
  have cd1 := cd.up k0
  have hc1 := k0 _ _ hc
  have lt1 : Lt h₁ 232 primPos primQual := lt.go (Keep2.all (W := []) k0) (by simp)
  have dDc : D ≠ Dc := cd1.ne_rd H
  have lDc : Dc ≠ L := ne_of_live cd.live nL
  have d232 : D ≠ 232 := lt1.ne_rd H
  have l232 : L ≠ 232 := lt1.ne_ns C.ns
  have c232 : Dc ≠ 232 := cd1.ne_lt lt1
  have kk : Keep2 [] s.heap h₁ := Keep2.all k0
  subst hnm hnd
  have nf1 : NmF h₁ f r := nf.go kk
  have o : Op (wd x) (refD x) := .inl ⟨_, hx, rfl, rfl⟩
  have hq := R.lt ht
  have f1 := F1.at_
  refine bc fun hGo => ?_
  obtain ⟨pl0, rb⟩ := o.place0 ht
  refine hGo ?_; clear hGo
  have T0 : Ats h₁ [] := Ats.nil
  refine bc fun hGo => ?_
  obtain ⟨k, t5, hk5, pl5, ht5, hb5⟩ := P.place
  refine hGo ?_; clear hGo
  repeat walk1
  try dsimp only
  with_reducible show Q _ _
  exact h _ _ _ _ (Cx.keep (by assumption) nL) (by assumption) (by walk_at "lt") (by walk_at "cd") (by walk_at "at2")
theorem C_unb_num {c Dc : Addr} {nm last : Value} {dp : Nat} {f N : Addr} {q v : Nat} {d : PyData} {x : PySem.Str} {t1 : Tx} {Q : Value → Shared → Prop} (G : Gd w g) (S : St g W s.heap) (R : RS w g r D tl nd toks ts) (H : RD w s.heap D tl p nd) (hW : ∀ x ∈ ([D, 232, Dc] : List Addr), x ∈ W) (hh : A.handled = none) (hd : A.depth + 15 < recursionLimit) (hp : p < 2 ^ 29) (hc : s.heap.get? c = some (instObj 372 Dc)) (cd : CD w s.heap Dc r nm dp last) (lt : Lt s.heap 232 primPos primQual) (hnm : nm = .ref f) (hnd : nd = .ref N) (nn : NmD w g N) (nf : NmF s.heap f r) (ht : ts[p]? = some (nb x)) (hx : Dg x v) (F1 : Foll ts (p + 1) t1) (P : Pred ts (p + 1) q (numD v) d)
    (h : ∀ a h' tk last', Keep2 [D, 232, Dc] s.heap h' → RD w h' D tl q nd → Lt h' 232 primPos primQual → CD w h' Dc r nm dp last' → At h' (.ref a) (d) → Q (.ref a) { s with heap := h', toks := tk }) : wpAny (MM w) A (call (.ref 327) [.ref c]) Q E s := by
  w_top off
  have S1 : St g [D, 232, Dc] s.heap := S.less hW
  refine enterN (W := [D, 232, Dc]) [("self", .ref c)] G S1 ((fn_at G S (f327 w)).trans rfl) (by kernel_rfl) (by walk_at "dq") (BindsTo.of_eq rfl) (locs rfl) ?_ (by rfl)
  intro L h₁ tk C nL k0
  have dL : D ≠ L := ne_of_live H.live nL
  replace H := H.up k0
  have hq := R.lt ht
  have cd1 := cd.up k0
  have hc1 := k0 _ _ hc
  have lt1 : Lt h₁ 232 primPos primQual := lt.go (Keep2.all (W := []) k0) (by simp)
  have dDc : D ≠ Dc := cd1.ne_rd H
  have lDc : Dc ≠ L := ne_of_live cd.live nL
  have d232 : D ≠ 232 := lt1.ne_rd H
  have l232 : L ≠ 232 := lt1.ne_ns C.ns
  have c232 : Dc ≠ 232 := cd1.ne_lt lt1
  have kk : Keep2 [] s.heap h₁ := Keep2.all k0
  subst hnm hnd
  have nf1 : NmF h₁ f r := nf.go kk
  have o : Op (nb x) (numD v) := .inr ⟨_, _, hx, rfl, rfl⟩
  have hq := R.lt ht
  have f1 := F1.at_
  refine bc fun hGo => ?_
  obtain ⟨pl0, rb⟩ := o.place0 ht
  refine hGo ?_; clear hGo
  have T0 : Ats h₁ [] := Ats.nil
  refine bc fun hGo => ?_
  obtain ⟨k, t5, hk5, pl5, ht5, hb5⟩ := P.place
  refine hGo ?_; clear hGo
  repeat walk1
  try dsimp only
  with_reducible show Q _ _
  exact h _ _ _ _ (Cx.keep (by assumption) nL) (by assumption) (by walk_at "lt") (by walk_at "cd") (by walk_at "at2")
theorem C_newCR {nm : Value} {dp : Nat} {u : Tok} {Q : Value → Shared → Prop} (G : Gd w g) (S : St g W s.heap) (hd : A.depth + 2 < recursionLimit)
    (h : ∀ x dx h' tk, Keep2 [] s.heap h' → s.heap.get? dx = none → h'.get? x = some (instObj 372 dx) → CD w h' dx r nm dp .none → Q (.ref x) { s with heap := h', toks := tk }) : wpAny (MM w) A (call (.ref 372) [.ref r, nm, .int dp u]) Q E s := by
  w_top off
  refine wpAny_call ?_
  refine make_own (fI := 292) G S (by kernel_rfl) (by kernel_rfl) (by kernel_rfl) ?_
  intro x dx h0 k00 nx ndx nxd ex edx
  have gdx : g.get? dx = none := by
    cases q : g.get? dx with
    | none => rfl
    | some o => have e := S.sub _ o q; rw [ndx] at e; cases e
  have S1 : St g [dx] h0 := ⟨fun b o e => k00.keep b o (S.sub b o e) List.not_mem_nil, fun a q => by rw [List.mem_singleton.mp q]; exact gdx, fun a q => by rw [List.mem_singleton.mp q]; exact ⟨_, edx⟩⟩
  refine enter2 (W := [dx]) [("self", .ref x), ("reader", .ref r), ("is_named", nm), ("depth", .int dp u)] (s := { s with heap := h0 }) G S1 ((fn_at (S := S1) G (f292 w)).trans rfl) (by kernel_rfl) (by first | walk_at "dr" | (show A.depth + 1 < _; omega)) (BindsTo.of_eq rfl) (locs rfl) ?_ (by decide)
  intro L h₁ tk C nL k0
  refine noE ?_
  have ex1 := k0 _ _ ex
  have edx1 := k0 _ _ edx
  have dL : dx ≠ L := fun q => by rw [q] at edx; rw [edx] at nL; cases nL
  walk1; walk1; walk1; walk1
  try dsimp only
  refine set_attr (C := 372) (D := dx) (es' := [⟨kh w "reader", .str "reader" _, .ref r⟩]) G (by assumption) (by walk_at "stab") edx1 (List.mem_singleton.mpr rfl) (by kernel_rfl) (by kernel_rfl) (by kernel_rfl) (by kernel_rfl) rfl (by rfl) (by simp) fun h1 C1 k1 e1 => ?_
  try dsimp only
  walk1; walk1; walk1; walk1; walk1
  try dsimp only
  refine set_attr (C := 372) (D := dx) (es' := [⟨kh w "reader", .str "reader" _, .ref r⟩, ⟨kh w "is_named", .str "is_named" _, nm⟩]) G (by assumption) (by walk_at "stab") e1 (List.mem_singleton.mpr rfl) (by kernel_rfl) (by kernel_rfl) (by kernel_rfl) (by kernel_rfl) rfl (by rfl) (by simp) fun h2 C2 k2 e2 => ?_
  try dsimp only
  walk1; walk1; walk1; walk1; walk1
  try dsimp only
  refine set_attr (C := 372) (D := dx) (es' := [⟨kh w "reader", .str "reader" _, .ref r⟩, ⟨kh w "is_named", .str "is_named" _, nm⟩, ⟨kh w "depth", .str "depth" _, .int dp u⟩]) G (by assumption) (by walk_at "stab") e2 (List.mem_singleton.mpr rfl) (by kernel_rfl) (by kernel_rfl) (by kernel_rfl) (by kernel_rfl) rfl (by rfl) (by simp) fun h3 C3 k3 e3 => ?_
  try dsimp only
  walk1; walk1; walk1; walk1; walk1
  try dsimp only
  refine set_attr (C := 372) (D := dx) (es' := [⟨kh w "reader", .str "reader" _, .ref r⟩, ⟨kh w "is_named", .str "is_named" _, nm⟩, ⟨kh w "depth", .str "depth" _, .int dp u⟩, ⟨kh w "last", .str "last" _, .none⟩]) G (by assumption) (by walk_at "stab") e3 (List.mem_singleton.mpr rfl) (by kernel_rfl) (by kernel_rfl) (by kernel_rfl) (by kernel_rfl) rfl (by rfl) (by simp) fun h4 C4 k4 e4 => ?_
  try dsimp only
  repeat walk1
  try dsimp only
  refine ⟨rfl, ?_⟩
  refine h x dx _ _ ?_ ndx (by walk_at "stab") ⟨_, _, _, _, _, _, e4⟩
  have kk : Keep2 [dx] h0 _ := (C4.keep nL)
  exact ⟨fun b o e _ => kk.keep b o (k00.keep b o e List.not_mem_nil) fun q => (by rw [List.mem_singleton.mp q, ndx] at e; cases e), fun b o e => let ⟨o', e'⟩ := k00.live b o e; kk.live b o' e', fun b o z e => kk.stab b o z (k00.stab b o z e)⟩
section
open G3
theorem C_newToken {y1 y2 : PySem.Str} {t1 t2 : Tok} {ata : Addr} {Q : Value → Shared → Prop} (G : Gd w g) (S : St g W s.heap) (hd : A.depth + 2 < recursionLimit)
    (h : ∀ x dx h' tk n u0 u1 u2 u3, Keep2 [] s.heap h' → s.heap.get? x = none → s.heap.get? dx = none → h'.get? x = some (instObj 672 dx) → h'.get? dx = some (dictOf (tdict w (y1, y2) (.ref ata) u0 t1 u1 t2 u2 u3) n) → Q (.ref x) { s with heap := h', toks := tk }) : wpAny (MM w) A (call (.ref 672) [.str y1 t1, .str y2 t2, .ref ata]) Q E s := by
  w_top off
  refine wpAny_call ?_
  refine make_own (fI := 662) G S (by kernel_rfl) (by kernel_rfl) (by kernel_rfl) ?_
  intro x dx h0 k00 nx ndx nxd ex edx
  have gdx : g.get? dx = none := none_back (fun b o q => ⟨o, S.sub b o q⟩) ndx
  have S1 : St g [dx] h0 := ⟨fun b o e => k00.keep b o (S.sub b o e) List.not_mem_nil, fun a q => by rw [List.mem_singleton.mp q]; exact gdx, fun a q => by rw [List.mem_singleton.mp q]; exact ⟨_, edx⟩⟩
  refine enter2 (W := [dx]) [("self", .ref x), ("kind", .str y1 t1), ("worth", .str y2 t2), ("at", .ref ata), ("is_in_a", .bool false)] (s := { s with heap := h0 }) G S1 ((fn_at (S := S1) G (f662 w)).trans rfl) (by kernel_rfl) (by first | walk_at "dr" | (show A.depth + 1 < _; omega)) (BindsTo.of_defaults (T := 655) rfl (fn_at (S := S1) G (f655 w)) rfl rfl rfl) (locs rfl) ?_ (by decide)
  intro L h₁ tk C nL k0
  refine noE ?_
  have ex1 := k0 _ _ ex
  have edx1 := k0 _ _ edx
  have dL : dx ≠ L := fun q => by rw [q] at edx; rw [edx] at nL; cases nL
  walk1; walk1; walk1; walk1
  try dsimp only
  refine set_attr (C := 672) (D := dx) (es' := [⟨kh w "kind", .str "kind" _, .str y1 t1⟩]) G (by assumption) (by walk_at "stab") edx1 (List.mem_singleton.mpr rfl) (by kernel_rfl) (by kernel_rfl) (by kernel_rfl) (by kernel_rfl) rfl (by rfl) (by simp) fun h1 C1 k1 e1 => ?_
  try dsimp only
  walk1; walk1; walk1; walk1; walk1
  try dsimp only
  refine set_attr (C := 672) (D := dx) (es' := [⟨kh w "kind", .str "kind" _, .str y1 t1⟩, ⟨kh w "worth", .str "worth" _, .str y2 t2⟩]) G (by assumption) (by walk_at "stab") e1 (List.mem_singleton.mpr rfl) (by kernel_rfl) (by kernel_rfl) (by kernel_rfl) (by kernel_rfl) rfl (by rfl) (by simp) fun h2 C2 k2 e2 => ?_
  try dsimp only
  walk1; walk1; walk1; walk1; walk1
  try dsimp only
  refine set_attr (C := 672) (D := dx) (es' := [⟨kh w "kind", .str "kind" _, .str y1 t1⟩, ⟨kh w "worth", .str "worth" _, .str y2 t2⟩, ⟨kh w "at", .str "at" _, .ref ata⟩]) G (by assumption) (by walk_at "stab") e2 (List.mem_singleton.mpr rfl) (by kernel_rfl) (by kernel_rfl) (by kernel_rfl) (by kernel_rfl) rfl (by rfl) (by simp) fun h3 C3 k3 e3 => ?_
  try dsimp only
  walk1; walk1; walk1; walk1; walk1
  try dsimp only
  refine set_attr (C := 672) (D := dx) (es' := [⟨kh w "kind", .str "kind" _, .str y1 t1⟩, ⟨kh w "worth", .str "worth" _, .str y2 t2⟩, ⟨kh w "at", .str "at" _, .ref ata⟩, ⟨kh w "is_in_a", .str "is_in_a" _, .bool false⟩]) G (by assumption) (by walk_at "stab") e3 (List.mem_singleton.mpr rfl) (by kernel_rfl) (by kernel_rfl) (by kernel_rfl) (by kernel_rfl) rfl (by rfl) (by simp) fun h4 C4 k4 e4 => ?_
  try dsimp only
  repeat walk1
  try dsimp only
  refine ⟨rfl, ?_⟩
  refine h x dx _ _ _ _ _ _ _ ?_ nx ndx (by walk_at "stab") e4
  have kk : Keep2 [dx] h0 _ := (C4.keep nL)
  exact ⟨fun b o e _ => kk.keep b o (k00.keep b o e List.not_mem_nil) fun q => (by rw [List.mem_singleton.mp q, ndx] at e; cases e), fun b o e => let ⟨o', e'⟩ := k00.live b o e; kk.live b o' e', fun b o z e => kk.stab b o z (k00.stab b o z e)⟩
theorem empty_dict {env : Env} {pos : Pos} {Q : Value → Shared → Prop} (h : ∀ N h', s.heap.get? N = none → Keep2 [] s.heap h' → h'.get? N = some emptyDict → Q (.ref N) { s with heap := h' }) : wpAny (MM w) A (eval (.Dict [] [] pos) env) Q E s := by
  rw [eval_Dict_empty]
  refine wpAny_bind (wpAny_standAt ?_)
  unfold newDict
  refine wpAny_newObj_type (h _ _ none_of_size (Keep2.push _) (Heap.get?_push_size _ rfl))
theorem C_newReader {tl : Addr} {Q : Value → Shared → Prop} (G : Gd w g) (S : St g W s.heap) (hd : A.depth + 2 < recursionLimit)
    (h : ∀ x dx N h' tk, Keep2 [] s.heap h' → s.heap.get? x = none → s.heap.get? dx = none → s.heap.get? N = none → h'.get? x = some (instObj 642 dx) → RD w h' dx tl 0 (.ref N) → Q (.ref x) { s with heap := h', toks := tk }) : wpAny (MM w) A (call (.ref 642) [.ref tl]) Q E s := by
  w_top off
  refine wpAny_call ?_
  refine make_own (fI := 488) G S (by kernel_rfl) (by kernel_rfl) (by kernel_rfl) ?_
  intro x dx h0 k00 nx ndx nxd ex edx
  have gdx : g.get? dx = none := none_back (fun b o q => ⟨o, S.sub b o q⟩) ndx
  have S1 : St g [dx] h0 := ⟨fun b o e => k00.keep b o (S.sub b o e) List.not_mem_nil, fun a q => by rw [List.mem_singleton.mp q]; exact gdx, fun a q => by rw [List.mem_singleton.mp q]; exact ⟨_, edx⟩⟩
  refine enter2 (W := [dx]) [("self", .ref x), ("tokens", .ref tl), ("at", .int 0 908)] (s := { s with heap := h0 }) G S1 ((fn_at (S := S1) G (f488 w)).trans rfl) (by kernel_rfl) (by first | walk_at "dr" | (show A.depth + 1 < _; omega)) (BindsTo.of_defaults (T := 481) rfl (fn_at (S := S1) G (f481 w)) rfl rfl rfl) (locs rfl) ?_ (by decide)
  intro L h₁ tk C nL k0
  refine noE ?_
  have ex1 := k0 _ _ ex
  have edx1 := k0 _ _ edx
  have dL : dx ≠ L := fun q => by rw [q] at edx; rw [edx] at nL; cases nL
  walk1; walk1; walk1; walk1
  try dsimp only
  refine set_attr (C := 642) (D := dx) (es' := [⟨kh w "tokens", .str "tokens" _, .ref tl⟩]) G (by assumption) (by walk_at "stab") edx1 (List.mem_singleton.mpr rfl) (by kernel_rfl) (by kernel_rfl) (by kernel_rfl) (by kernel_rfl) rfl (by rfl) (by simp) fun h1 C1 k1 e1 => ?_
  try dsimp only
  walk1; walk1; walk1; walk1; walk1
  try dsimp only
  refine set_attr (C := 642) (D := dx) (es' := [⟨kh w "tokens", .str "tokens" _, .ref tl⟩, ⟨kh w "at", .str "at" _, .int 0 908⟩]) G (by assumption) (by walk_at "stab") e1 (List.mem_singleton.mpr rfl) (by kernel_rfl) (by kernel_rfl) (by kernel_rfl) (by kernel_rfl) rfl (by rfl) (by simp) fun h2 C2 k2 e2 => ?_
  try dsimp only
  walk1; walk1; walk1
  refine empty_dict fun N hN nN kN eN => ?_
  have CN := C2.gs kN
  have nNx : hN.get? dx = h2.get? dx := by rw [e2]; exact kN.keep _ _ e2 List.not_mem_nil
  try dsimp only
  walk1
  try dsimp only
  refine set_attr (C := 642) (D := dx) (es' := rdict w tl 0 (.ref N) _ _ 908 _) G CN (by walk_at "stab") (kN.keep _ _ e2 List.not_mem_nil) (List.mem_singleton.mpr rfl) (by kernel_rfl) (by kernel_rfl) (by kernel_rfl) (by kernel_rfl) rfl (by rfl) (by simp [rdict]) fun h4 C4 k4 e4 => ?_
  try dsimp only
  repeat walk1
  try dsimp only
  refine ⟨rfl, ?_⟩
  refine h x dx N _ _ ?_ nx ndx (none_back k00.live (none_back C2.k.live nN)) (by walk_at "stab") ⟨_, _, _, _, _, e4⟩
  have kk : Keep2 [dx] h0 _ := (C4.keep nL)
  exact ⟨fun b o e _ => kk.keep b o (k00.keep b o e List.not_mem_nil) fun q => (by rw [List.mem_singleton.mp q, ndx] at e; cases e), fun b o e => let ⟨o', e'⟩ := k00.live b o e; kk.live b o' e', fun b o z e => kk.stab b o z (k00.stab b o z e)⟩
end
def Leaf (ts : List Tx) (p q : Nat) (d : PyData) : Prop :=
  (ts[p]? = some (wd (ofString "DONE")) ∧ (∃ t1, Foll ts (p + 1) t1) ∧ q = p + 1 ∧ d = .tuple [.str (ofString "named"), refD (ofString "DONE")]) ∨
  (∃ x t1, ts[p]? = some (wd x) ∧ isNm x ∧ (ofString "DONE" == x) = false ∧ Foll ts (p + 1) t1 ∧ Pred ts (p + 1) q (refD x) d) ∨
  (∃ x v t1, ts[p]? = some (nb x) ∧ Dg x v ∧ Foll ts (p + 1) t1 ∧ Pred ts (p + 1) q (numD v) d)
theorem Leaf.op {ts : List Tx} {p q : Nat} {d : PyData} (l : Leaf ts p q d) : ∃ t d1, ts[p]? = some t ∧ Op t d1 := by
  rcases l with ⟨h0, _⟩ | ⟨x, t1, h0, hx, _⟩ | ⟨x, v, t1, h0, hx, _⟩
  · exact ⟨_, _, h0, .inl ⟨_, .inr (.inr (.inr (.inr rfl))), rfl, rfl⟩⟩
  · exact ⟨_, _, h0, .inl ⟨_, hx, rfl, rfl⟩⟩
  · exact ⟨_, _, h0, .inr ⟨_, _, hx, rfl, rfl⟩⟩
theorem C_unbracketed {c Dc : Addr} {nm last : Value} {dp : Nat} {f N : Addr} {d : PyData} {q : Nat} {Q : Value → Shared → Prop} (G : Gd w g) (S : St g W s.heap) (R : RS w g r D tl nd toks ts) (H : RD w s.heap D tl p nd) (hW : ∀ x ∈ ([D, 232, Dc] : List Addr), x ∈ W) (hh : A.handled = none) (hd : A.depth + 15 < recursionLimit) (hp : p < 2 ^ 29) (hc : s.heap.get? c = some (instObj 372 Dc)) (cd : CD w s.heap Dc r nm dp last) (lt : Lt s.heap 232 primPos primQual) (hnm : nm = .ref f) (hnd : nd = .ref N) (nn : NmD w g N) (nf : NmF s.heap f r) (l : Leaf ts p q d)
    (h : ∀ a h' tk last', Keep2 [D, 232, Dc] s.heap h' → RD w h' D tl q nd → Lt h' 232 primPos primQual → CD w h' Dc r nm dp last' → At h' (.ref a) (d) → Q (.ref a) { s with heap := h', toks := tk }) : wpAny (MM w) A (call (.ref 327) [.ref c]) Q E s := by
  rcases l with ⟨h0, ⟨t1, F⟩, rfl, rfl⟩ | ⟨x, t1, h0, hx, hn, F, P⟩ | ⟨x, v, t1, h0, hx, F, P⟩
  · exact C_unb_named G S R H hW hh hd hp hc cd lt hnm hnd nn nf h0 F h
  · exact C_unb_item G S R H hW hh hd hp hc cd lt hnm hnd nn nf h0 hx hn F P h
  · exact C_unb_num G S R H hW hh hd hp hc cd lt hnm hnd nn nf h0 hx F P h
def Spec (fa k : Nat) (w : World) (ts : List Tx) (n p q : Nat) (d : PyData) : Prop :=
  ∀ {A : Around} {E : Value → Shared → Prop} {s : Shared} {g : Heap} {W : List Addr} {r D tl : Addr} {nd : Value} {toks : List Value} {c Dc : Addr} {nm last : Value} {dp : Nat} {f N : Addr} {Q : Value → Shared → Prop}
    (_ : Gd w g) (_ : St g W s.heap) (_ : RS w g r D tl nd toks ts) (_ : RD w s.heap D tl p nd) (_ : ∀ x ∈ ([D, 232, Dc] : List Addr), x ∈ W) (_ : A.handled = none) (_ : A.depth + k + 10 * n < recursionLimit) (_ : p < 2 ^ 29)
    (_ : s.heap.get? c = some (instObj 372 Dc)) (_ : CD w s.heap Dc r nm dp last) (_ : Lt s.heap 232 primPos primQual) (_ : nm = .ref f) (_ : nd = .ref N) (_ : NmD w g N) (_ : NmF s.heap f r) (_ : dp + n ≤ 20)
    (_ : ∀ a h' tk last', Keep2 [D, 232, Dc] s.heap h' → RD w h' D tl q nd → Lt h' 232 primPos primQual → CD w h' Dc r nm dp last' → At h' (.ref a) (d) → Q (.ref a) { s with heap := h', toks := tk }), wpAny (MM w) A (call (.ref fa) [.ref c]) Q E s
theorem said58 : True := by
  k_with "m:call ref" => (walk_plain_pass; (with_reducible show wpAny _ _ (call (Value.ref 327) _) _ _ _); (refine C_unbracketed ‹_› (Cx.st ‹_›) ‹_› ‹_› (fun _ h => h) ‹_› (by walk_at "dp") (by walk_at "om") (by walk_at "stab") (by walk_at "cd") (by walk_at "lt") rfl rfl ‹_› (by walk_at "nf") ‹_› ?_; walk_at "carryC"))
  k_with "m:exec Try" => refine wpAny_Try_except ?_
  trivial
theorem S_single_leaf {n p q : Nat} {w : World} {ts : List Tx} {d : PyData} (l : Leaf ts p q d) : Spec 320 20 w ts n p q d := by
  w_top off
  intro A E s g W r D tl nd toks c Dc nm last dp f N Q G S R H hW hh hd hp hc cd lt hnm hnd nn nf hdn h
  have S1 : St g [D, 232, Dc] s.heap := S.less hW
  refine enterN (W := [D, 232, Dc]) [("self", .ref c)] G S1 ((fn_at G S (f320 w)).trans rfl) (by kernel_rfl) (by walk_at "dq") (BindsTo.of_eq rfl) (locs rfl) ?_ (by rfl)
  intro L h₁ tk C nL k0
  have dL : D ≠ L := ne_of_live H.live nL
  replace H := H.up k0
  have cd1 := cd.up k0
  have hc1 := k0 _ _ hc
  have lt1 : Lt h₁ 232 primPos primQual := lt.go (Keep2.all (W := []) k0) (by simp)
  have dDc : D ≠ Dc := cd1.ne_rd H
  have lDc : Dc ≠ L := ne_of_live cd.live nL
  have d232 : D ≠ 232 := lt1.ne_rd H
  have l232 : L ≠ 232 := lt1.ne_ns C.ns
  have c232 : Dc ≠ 232 := cd1.ne_lt lt1
  have kk : Keep2 [] s.heap h₁ := Keep2.all k0
  subst hnm hnd
  have nf1 : NmF h₁ f r := nf.go kk
  refine bc fun hGo => ?_
  obtain ⟨t, d1, ht, o⟩ := l.op
  refine hGo ?_; clear hGo
  have n1 : tokIs ts p "sign" "(" = false := o.np ht _
  have T0 : Ats h₁ [] := Ats.nil
  repeat walk1
  try dsimp only
  with_reducible show Q _ _
  exact h _ _ _ _ (Cx.keep (by assumption) nL) (by assumption) (by walk_at "lt") (by walk_at "cd") (by walk_at "at2")
theorem C_newCR1 {nm : Value} {dp : Nat} {u : Tok} {Q : Value → Shared → Prop} (G : Gd w g) (S : St g W s.heap) (hd : A.depth + 2 < recursionLimit)
    (h : ∀ x dx h' tk, Keep2 [] s.heap h' → s.heap.get? dx = none → h'.get? x = some (instObj 372 dx) → CD w h' dx r nm (dp + 1) .none → Q (.ref x) { s with heap := h', toks := tk }) : wpAny (MM w) A (call (.ref 372) [.ref r, nm, .int ((dp : Int) + 1) u]) Q E s :=
  C_newCR (dp := dp + 1) G S hd h
theorem Cx.goX {h0 h h' : Heap} {L : Addr} {m : PySem.Str → Option Value} {X : List Addr} (C : Cx g W h0 L m h) (k : Keep2 X h h') (s : ∀ x ∈ X, x ∈ W ∨ (h0.get? x = none ∧ x ≠ L ∧ g.get? x = none)) : Cx g W h0 L m h' := by
  refine ⟨?_, C.st.go k fun a q => (s a q).elim (fun z => C.st.off a z) fun z => z.2.2, C.nL, C.gL, ⟨fun b o e n => k.keep b o (C.k.keep b o e n) fun q => ?_, fun b o e => let ⟨o', e'⟩ := C.k.live b o e; k.live b o' e', fun b o n e => k.stab b o n (C.k.stab b o n e)⟩⟩
  · obtain ⟨oL, es, ep, hL, r⟩ := C.ns
    exact ⟨oL, es, ep, k.keep L oL hL fun q => (s L q).elim C.nL fun z => z.2.1 rfl, r⟩
  · rcases s b q with z | z
    · exact n (.tail _ z)
    · rw [z.1] at e; cases e
theorem St.add {h : Heap} {x : Addr} (S : St g W h) (n : g.get? x = Option.none) (l : ∃ o, h.get? x = some o) : St g (x :: W) h :=
  ⟨S.sub, fun a q => (List.mem_cons.mp q).elim (fun z => z ▸ n) (S.off a), fun a q => (List.mem_cons.mp q).elim (fun z => z ▸ l) (S.live a)⟩
theorem sub3 {a b c x : Addr} {V : List Addr} (h : ∀ y ∈ [a, b, c], y ∈ V) : ∀ y ∈ [a, b, x], y ∈ x :: V := fun y q => by
  rcases List.mem_cons.mp q with rfl | q
  · exact .tail _ (h _ (.head _))
  rcases List.mem_cons.mp q with rfl | q
  · exact .tail _ (h _ (.tail _ (.head _)))
  · rw [List.mem_singleton.mp q]; exact .head _
theorem nin333 {a x y z : Addr} (n : a ≠ x) (m : a ≠ y) (o : a ≠ z) : a ∉ [x, y, z] := fun q => by
  rcases List.mem_cons.mp q with q | q
  · exact n q
  · exact nin22 m o q
theorem said59 : True := by
  k_with "m:getAttr ref" => (walk_plain_pass; ((with_reducible show wpAny _ _ (getAttr _ (ofString "is_named") _) _ _ _); (with_reducible refine' g_isnamed ?g1 ?g2 ?g3 ?g4 ?_); (case g1 => assumption); (case g2 => exact Cx.st ‹_›); (case g3 => walk_at "stab"); (case g4 => walk_at "cd")))
  trivial
theorem S_in_brackets {n p q : Nat} {w : World} {ts : List Tx} {d : PyData} (e : Spec 299 24 w ts n (p + 1) q d) (h0 : ts[p]? = some (sg (ofString "("))) (h1 : ts[q]? = some (sg (ofString ")"))) : Spec 334 18 w ts (n + 1) p (q + 1) d := by
  w_top off
  intro A E s g W r D tl nd toks c Dc nm last dp f N Q G S R H hW hh hd hp hc cd lt hnm hnd nn nf hdn h
  have S1 : St g [D, 232, Dc] s.heap := S.less hW
  refine enterN (W := [D, 232, Dc]) [("self", .ref c)] G S1 ((fn_at G S (f334 w)).trans rfl) (by kernel_rfl) (by walk_at "dq") (BindsTo.of_eq rfl) (locs rfl) ?_ (by rfl)
  intro L h₁ tk C nL k0
  have dL : D ≠ L := ne_of_live H.live nL
  replace H := H.up k0
  have cd1 := cd.up k0
  have hc1 := k0 _ _ hc
  have lt1 : Lt h₁ 232 primPos primQual := lt.go (Keep2.all (W := []) k0) (by simp)
  have dDc : D ≠ Dc := cd1.ne_rd H
  have lDc : Dc ≠ L := ne_of_live cd.live nL
  have d232 : D ≠ 232 := lt1.ne_rd H
  have l232 : L ≠ 232 := lt1.ne_ns C.ns
  have c232 : Dc ≠ 232 := cd1.ne_lt lt1
  have kk : Keep2 [] s.heap h₁ := Keep2.all k0
  subst hnm hnd
  have nf1 : NmF h₁ f r := nf.go kk
  have hq := R.lt h0
  have hq1 := R.lt h1
  have T0 : Ats h₁ [] := Ats.nil
  have hlt : decide ((dp : Int) ≥ 20) = false := by simp; omega
  repeat walk1
  refine C_newCR1 (by assumption) (Cx.st (by assumption)) (by walk_at "dp") fun x dx h3 tk3 k3 ndx ex cdx => ?_
  have z := Cx.none_of (by assumption) ndx
  have C3 := Cx.gs (by assumption) k3
  have H3 := RD.gs (by assumption) k3 List.not_mem_nil
  have hc3 : h3.get? c = some (instObj 372 Dc) := inst_go k3 (by assumption)
  have cd3 : CD w h3 Dc r (.ref f) dp last := CD.go2 k3 (by assumption) List.not_mem_nil
  have lt3 : Lt h3 232 primPos primQual := Lt.go2 k3 (by assumption) List.not_mem_nil
  have T3 := Ats.go k3 (by assumption)
  have nf3 : NmF h3 f r := NmF.go k3 (by walk_at "nf")
  have xD : Dc ≠ dx := fun q => z.2.2.1 (q ▸ .tail _ (.tail _ (.head _)))
  try dsimp only
  repeat walk1
  refine e G (C3.st.add z.2.1 cdx.live) R H3 (sub3 (fun _ h => h)) (by assumption) (by first | walk_at "dr" | (show A.depth + 1 + 24 + 10 * n < _; omega)) (by omega) ex cdx lt3 rfl rfl nn nf3 (by omega) fun a h5 tk5 last5 k5 H5 lt5 cdx5 t5 => ?_
  have C5 := Cx.goX C3 k5 fun y q => by
    rcases List.mem_cons.mp q with rfl | q
    · exact .inl (.head _)
    rcases List.mem_cons.mp q with rfl | q
    · exact .inl (.tail _ (.head _))
    · rw [List.mem_singleton.mp q]; exact .inr ⟨z.1, z.2.2.2, z.2.1⟩
  have hc5 : h5.get? c = some (instObj 372 Dc) := inst_go k5 hc3
  have cd5 : CD w h5 Dc r (.ref f) dp last := CD.go2 k5 cd3 (nin333 dDc.symm c232 xD)
  have T5 := (Ats.go k5 T3).add t5
  have nf5 : NmF h5 f r := NmF.go k5 nf3
  try dsimp only
  repeat walk1
  try dsimp only
  with_reducible show Q _ _
  exact h _ _ _ _ (Cx.keep (by assumption) nL) (by assumption) (by walk_at "lt") (by walk_at "cd") (by walk_at "at2")
section
open G4
theorem dp3 {e : Env} {k m : Nat} (h : A.depth + 1 + k + m < recursionLimit) : (A.deeper e).depth + k + m < recursionLimit := h
theorem Spec.call {fa k n q : Nat} {d : PyData} {c Dc : Addr} {nm last : Value} {dp : Nat} {f N : Addr} {Q : Value → Shared → Prop} (G : Gd w g) (S : St g W s.heap) (R : RS w g r D tl nd toks ts) (H : RD w s.heap D tl p nd) (e : Spec fa k w ts n p q d) (hW : ∀ x ∈ ([D, 232, Dc] : List Addr), x ∈ W) (hh : A.handled = none) (hd : A.depth + k + 10 * n < recursionLimit) (hp : p < 2 ^ 29) (hc : s.heap.get? c = some (instObj 372 Dc)) (cd : CD w s.heap Dc r nm dp last) (lt : Lt s.heap 232 primPos primQual) (hnm : nm = .ref f) (hnd : nd = .ref N) (nn : NmD w g N) (nf : NmF s.heap f r) (hdn : dp + n ≤ 20)
    (h : ∀ a h' tk last', Keep2 [D, 232, Dc] s.heap h' → RD w h' D tl q nd → Lt h' 232 primPos primQual → CD w h' Dc r nm dp last' → At h' (.ref a) (d) → Q (.ref a) { s with heap := h', toks := tk }) : wpAny (MM w) A (call (.ref fa) [.ref c]) Q E s := e G S R H hW hh hd hp hc cd lt hnm hnd nn nf hdn h
theorem said60 : True := by
  k_with "m:call ref" => (guard_expr on4 =ₛ on4; (walk_plain_pass; (with_reducible show wpAny _ _ (call _ (([Value.ref _]) ++ [])) _ _ _); (refine Spec.call ‹_› (Cx.st ‹_›) ‹_› ‹_› ‹_› (fun _ h => h) ‹_› (dp3 (by walk_at "om")) (by walk_at "om") (by walk_at "stab") (by walk_at "cd") (by walk_at "lt") rfl rfl ‹_› (by walk_at "nf") (by walk_at "om") ?_; walk_at "carryC")))
  trivial
theorem S_single_br {n p q : Nat} {w : World} {ts : List Tx} {d : PyData} (e : Spec 334 18 w ts n p q d) (h0 : ts[p]? = some (sg (ofString "("))) : Spec 320 20 w ts n p q d := by
  w_top off
  intro A E s g W r D tl nd toks c Dc nm last dp f N Q G S R H hW hh hd hp hc cd lt hnm hnd nn nf hdn h
  have S1 : St g [D, 232, Dc] s.heap := S.less hW
  refine enterN (W := [D, 232, Dc]) [("self", .ref c)] G S1 ((fn_at G S (f320 w)).trans rfl) (by kernel_rfl) (by walk_at "dq") (BindsTo.of_eq rfl) (locs rfl) ?_ (by rfl)
  intro L h₁ tk C nL k0
  have dL : D ≠ L := ne_of_live H.live nL
  replace H := H.up k0
  have cd1 := cd.up k0
  have hc1 := k0 _ _ hc
  have lt1 : Lt h₁ 232 primPos primQual := lt.go (Keep2.all (W := []) k0) (by simp)
  have dDc : D ≠ Dc := cd1.ne_rd H
  have lDc : Dc ≠ L := ne_of_live cd.live nL
  have d232 : D ≠ 232 := lt1.ne_rd H
  have l232 : L ≠ 232 := lt1.ne_ns C.ns
  have c232 : Dc ≠ 232 := cd1.ne_lt lt1
  have kk : Keep2 [] s.heap h₁ := Keep2.all k0
  subst hnm hnd
  have nf1 : NmF h₁ f r := nf.go kk
  have hq := R.lt h0
  have T0 : Ats h₁ [] := Ats.nil
  repeat walk1
  try dsimp only
  with_reducible show Q _ _
  exact h _ _ _ _ (Cx.keep (by assumption) nL) (by assumption) (by walk_at "lt") (by walk_at "cd") (by walk_at "at2")
theorem S_turned_plain {n p q : Nat} {w : World} {ts : List Tx} {d : PyData} {t : Tx} (e : Spec 320 20 w ts n p q d) (h0 : ts[p]? = some t) (n1 : (wordOf t == ofString "NOT") = false) : Spec 313 22 w ts n p q d := by
  w_top off
  intro A E s g W r D tl nd toks c Dc nm last dp f N Q G S R H hW hh hd hp hc cd lt hnm hnd nn nf hdn h
  have S1 : St g [D, 232, Dc] s.heap := S.less hW
  refine enterN (W := [D, 232, Dc]) [("self", .ref c)] G S1 ((fn_at G S (f313 w)).trans rfl) (by kernel_rfl) (by walk_at "dq") (BindsTo.of_eq rfl) (locs rfl) ?_ (by rfl)
  intro L h₁ tk C nL k0
  have dL : D ≠ L := ne_of_live H.live nL
  replace H := H.up k0
  have cd1 := cd.up k0
  have hc1 := k0 _ _ hc
  have lt1 : Lt h₁ 232 primPos primQual := lt.go (Keep2.all (W := []) k0) (by simp)
  have dDc : D ≠ Dc := cd1.ne_rd H
  have lDc : Dc ≠ L := ne_of_live cd.live nL
  have d232 : D ≠ 232 := lt1.ne_rd H
  have l232 : L ≠ 232 := lt1.ne_ns C.ns
  have c232 : Dc ≠ 232 := cd1.ne_lt lt1
  have kk : Keep2 [] s.heap h₁ := Keep2.all k0
  subst hnm hnd
  have nf1 : NmF h₁ f r := nf.go kk
  have hq := R.lt h0
  have T0 : Ats h₁ [] := Ats.nil
  repeat walk1
  try dsimp only
  with_reducible show Q _ _
  exact h _ _ _ _ (Cx.keep (by assumption) nL) (by assumption) (by walk_at "lt") (by walk_at "cd") (by walk_at "at2")
theorem S_turned_not {n p q : Nat} {w : World} {ts : List Tx} {d : PyData} (e : Spec 320 20 w ts n (p + 1) q d) (h0 : ts[p]? = some (wd (ofString "NOT"))) (h1 : ts[p + 1]? = some (sg (ofString "("))) : Spec 313 22 w ts n p q (.tuple [.str (ofString "not"), d]) := by
  w_top off
  intro A E s g W r D tl nd toks c Dc nm last dp f N Q G S R H hW hh hd hp hc cd lt hnm hnd nn nf hdn h
  have S1 : St g [D, 232, Dc] s.heap := S.less hW
  refine enterN (W := [D, 232, Dc]) [("self", .ref c)] G S1 ((fn_at G S (f313 w)).trans rfl) (by kernel_rfl) (by walk_at "dq") (BindsTo.of_eq rfl) (locs rfl) ?_ (by rfl)
  intro L h₁ tk C nL k0
  have dL : D ≠ L := ne_of_live H.live nL
  replace H := H.up k0
  have cd1 := cd.up k0
  have hc1 := k0 _ _ hc
  have lt1 : Lt h₁ 232 primPos primQual := lt.go (Keep2.all (W := []) k0) (by simp)
  have dDc : D ≠ Dc := cd1.ne_rd H
  have lDc : Dc ≠ L := ne_of_live cd.live nL
  have d232 : D ≠ 232 := lt1.ne_rd H
  have l232 : L ≠ 232 := lt1.ne_ns C.ns
  have c232 : Dc ≠ 232 := cd1.ne_lt lt1
  have kk : Keep2 [] s.heap h₁ := Keep2.all k0
  subst hnm hnd
  have nf1 : NmF h₁ f r := nf.go kk
  have hq := R.lt h0
  have pl : Place ts p 1 := ⟨_, h0, .inr (.inl ⟨by kernel_rfl!, by kernel_rfl!, rfl⟩)⟩
  have rb : relAt (sg (ofString "(")) = false := by kernel_rfl!
  have T0 : Ats h₁ [] := Ats.nil
  repeat walk1
  try dsimp only
  with_reducible show Q _ _
  exact h _ _ _ _ (Cx.keep (by assumption) nL) (by assumption) (by walk_at "lt") (by walk_at "cd") (by walk_at "at2")
theorem S_both_one {n p q : Nat} {w : World} {ts : List Tx} {d : PyData} (e : Spec 313 22 w ts n p q d) (hq : q < 2 ^ 29) (n1 : tokIs ts q "word" "AND" = false) : Spec 306 23 w ts n p q d := by
  w_top off
  intro A E s g W r D tl nd toks c Dc nm last dp f N Q G S R H hW hh hd hp hc cd lt hnm hnd nn nf hdn h
  have S1 : St g [D, 232, Dc] s.heap := S.less hW
  refine enterN (W := [D, 232, Dc]) [("self", .ref c)] G S1 ((fn_at G S (f306 w)).trans rfl) (by kernel_rfl) (by walk_at "dq") (BindsTo.of_eq rfl) (locs rfl) ?_ (by rfl)
  intro L h₁ tk C nL k0
  have dL : D ≠ L := ne_of_live H.live nL
  replace H := H.up k0
  have cd1 := cd.up k0
  have hc1 := k0 _ _ hc
  have lt1 : Lt h₁ 232 primPos primQual := lt.go (Keep2.all (W := []) k0) (by simp)
  have dDc : D ≠ Dc := cd1.ne_rd H
  have lDc : Dc ≠ L := ne_of_live cd.live nL
  have d232 : D ≠ 232 := lt1.ne_rd H
  have l232 : L ≠ 232 := lt1.ne_ns C.ns
  have c232 : Dc ≠ 232 := cd1.ne_lt lt1
  have kk : Keep2 [] s.heap h₁ := Keep2.all k0
  subst hnm hnd
  have nf1 : NmF h₁ f r := nf.go kk
  have T0 : Ats h₁ [] := Ats.nil
  repeat walk1
  try dsimp only
  with_reducible show Q _ _
  exact h _ _ _ _ (Cx.keep (by assumption) nL) (by assumption) (by walk_at "lt") (by walk_at "cd") (by walk_at "at2")
theorem S_both_and {n p q : Nat} {w : World} {ts : List Tx} {d1 d2 : PyData} {q1 : Nat} (e1 : Spec 313 22 w ts n p q1 d1) (h1 : ts[q1]? = some (wd (ofString "AND"))) (e2 : Spec 313 22 w ts n (q1 + 1) q d2) (hq : q < 2 ^ 29) (n1 : tokIs ts q "word" "AND" = false) : Spec 306 23 w ts n p q (.tuple [.str (ofString "and"), d1, d2]) := by
  w_top off
  intro A E s g W r D tl nd toks c Dc nm last dp f N Q G S R H hW hh hd hp hc cd lt hnm hnd nn nf hdn h
  have S1 : St g [D, 232, Dc] s.heap := S.less hW
  refine enterN (W := [D, 232, Dc]) [("self", .ref c)] G S1 ((fn_at G S (f306 w)).trans rfl) (by kernel_rfl) (by walk_at "dq") (BindsTo.of_eq rfl) (locs rfl) ?_ (by rfl)
  intro L h₁ tk C nL k0
  have dL : D ≠ L := ne_of_live H.live nL
  replace H := H.up k0
  have cd1 := cd.up k0
  have hc1 := k0 _ _ hc
  have lt1 : Lt h₁ 232 primPos primQual := lt.go (Keep2.all (W := []) k0) (by simp)
  have dDc : D ≠ Dc := cd1.ne_rd H
  have lDc : Dc ≠ L := ne_of_live cd.live nL
  have d232 : D ≠ 232 := lt1.ne_rd H
  have l232 : L ≠ 232 := lt1.ne_ns C.ns
  have c232 : Dc ≠ 232 := cd1.ne_lt lt1
  have kk : Keep2 [] s.heap h₁ := Keep2.all k0
  subst hnm hnd
  have nf1 : NmF h₁ f r := nf.go kk
  have hq1 := R.lt h1
  have T0 : Ats h₁ [] := Ats.nil
  repeat walk1
  try dsimp only
  with_reducible show Q _ _
  exact h _ _ _ _ (Cx.keep (by assumption) nL) (by assumption) (by walk_at "lt") (by walk_at "cd") (by walk_at "at2")
theorem S_either_one {n p q : Nat} {w : World} {ts : List Tx} {d : PyData} (e : Spec 306 23 w ts n p q d) (hq : q < 2 ^ 29) (n1 : tokIs ts q "word" "OR" = false) : Spec 299 24 w ts n p q d := by
  w_top off
  intro A E s g W r D tl nd toks c Dc nm last dp f N Q G S R H hW hh hd hp hc cd lt hnm hnd nn nf hdn h
  have S1 : St g [D, 232, Dc] s.heap := S.less hW
  refine enterN (W := [D, 232, Dc]) [("self", .ref c)] G S1 ((fn_at G S (f299 w)).trans rfl) (by kernel_rfl) (by walk_at "dq") (BindsTo.of_eq rfl) (locs rfl) ?_ (by rfl)
  intro L h₁ tk C nL k0
  have dL : D ≠ L := ne_of_live H.live nL
  replace H := H.up k0
  have cd1 := cd.up k0
  have hc1 := k0 _ _ hc
  have lt1 : Lt h₁ 232 primPos primQual := lt.go (Keep2.all (W := []) k0) (by simp)
  have dDc : D ≠ Dc := cd1.ne_rd H
  have lDc : Dc ≠ L := ne_of_live cd.live nL
  have d232 : D ≠ 232 := lt1.ne_rd H
  have l232 : L ≠ 232 := lt1.ne_ns C.ns
  have c232 : Dc ≠ 232 := cd1.ne_lt lt1
  have kk : Keep2 [] s.heap h₁ := Keep2.all k0
  subst hnm hnd
  have nf1 : NmF h₁ f r := nf.go kk
  have T0 : Ats h₁ [] := Ats.nil
  repeat walk1
  try dsimp only
  with_reducible show Q _ _
  exact h _ _ _ _ (Cx.keep (by assumption) nL) (by assumption) (by walk_at "lt") (by walk_at "cd") (by walk_at "at2")
theorem S_either_or {n p q : Nat} {w : World} {ts : List Tx} {d1 d2 : PyData} {q1 : Nat} (e1 : Spec 306 23 w ts n p q1 d1) (h1 : ts[q1]? = some (wd (ofString "OR"))) (e2 : Spec 306 23 w ts n (q1 + 1) q d2) (hq : q < 2 ^ 29) (n1 : tokIs ts q "word" "OR" = false) : Spec 299 24 w ts n p q (.tuple [.str (ofString "or"), d1, d2]) := by
  w_top off
  intro A E s g W r D tl nd toks c Dc nm last dp f N Q G S R H hW hh hd hp hc cd lt hnm hnd nn nf hdn h
  have S1 : St g [D, 232, Dc] s.heap := S.less hW
  refine enterN (W := [D, 232, Dc]) [("self", .ref c)] G S1 ((fn_at G S (f299 w)).trans rfl) (by kernel_rfl) (by walk_at "dq") (BindsTo.of_eq rfl) (locs rfl) ?_ (by rfl)
  intro L h₁ tk C nL k0
  have dL : D ≠ L := ne_of_live H.live nL
  replace H := H.up k0
  have cd1 := cd.up k0
  have hc1 := k0 _ _ hc
  have lt1 : Lt h₁ 232 primPos primQual := lt.go (Keep2.all (W := []) k0) (by simp)
  have dDc : D ≠ Dc := cd1.ne_rd H
  have lDc : Dc ≠ L := ne_of_live cd.live nL
  have d232 : D ≠ 232 := lt1.ne_rd H
  have l232 : L ≠ 232 := lt1.ne_ns C.ns
  have c232 : Dc ≠ 232 := cd1.ne_lt lt1
  have kk : Keep2 [] s.heap h₁ := Keep2.all k0
  subst hnm hnd
  have nf1 : NmF h₁ f r := nf.go kk
  have hq1 := R.lt h1
  have T0 : Ats h₁ [] := Ats.nil
  repeat walk1
  try dsimp only
  with_reducible show Q _ _
  exact h _ _ _ _ (Cx.keep (by assumption) nL) (by assumption) (by walk_at "lt") (by walk_at "cd") (by walk_at "at2")
section
variable {h0 : Heap} {L : Addr} {m : PySem.Str → Option Value}
theorem enterD {R : Result → Shared → Prop} {f : Addr} {name qual : PySem.Str} {params : Arguments} {body : List Stmt} {scope : Scope} {dV kV doc pm cdv ct oc : Value} {an od : Option Addr}
    {osl : Array (Option Value)} {vals : List Value} (binds : List (PySem.Str × Value)) (cl : Addr → List (PySem.Str × Addr))
    (G : Gd w g) (S : St g W s.heap) (ho : s.heap.get? f = some ⟨oc, od, .func (fnX name qual params body scope [] dV kV doc pm an cdv ct), osl⟩) (hcd : codeIn (K w.params) cdv qual = true) (hroom : A.depth < recursionLimit)
    (hbind : BindsTo s (fnX name qual params body scope [] dV kV doc pm an cdv ct) ⟨vals, []⟩ binds) (hcl : ∀ L, cellsFrom (L + 1) scope.names [] = cl L)
    (hkind : ∀ L, ∀ x ∈ binds, scope.names.lookup x.1 = some .local ∨ (scope.names.lookup x.1 = some .cell ∧ ((cl L).lookup x.1).isSome = true))
    (h : ∀ L h₁ tk, Cx g W s.heap L (bindL (envX qual scope L f cdv (cl L)).kindOf binds fun _ => none) h₁ → s.heap.get? L = none → (∀ b o, s.heap.get? b = some o → h₁.get? b = some o) →
      (∀ n c, (cl L).lookup n = some c → h₁.IsCell c (bindC (envX qual scope L f cdv (cl L)).kindOf binds (fun _ => none) n)) →
      wpAny (MM w) (A.deeper (envX qual scope L f cdv (cl L))) (execs body (envX qual scope L f cdv (cl L))) (fun fl s' => R (.ok (.ret (match fl with | .ret v => v | _ => .none))) s')
        (fun e s' => wpAny (MM w) (A.deeper (envX qual scope L f cdv (cl L))) (leaving (envX qual scope L f cdv (cl L)) e) (fun _ s'' => R (.error e) s'') (fun e' s'' => R (.error e') s'') s')
        { s with heap := h₁, toks := tk })
    (hco : scope.isCoroutine = false := by rfl) (hgen : scope.isGenerator = false := by rfl) (hk : scope.kind = .function := by rfl) : codeAny (MM w) A (.call (.ref f) ⟨vals, []⟩) R s := by
  have G' := G.keeps S.sub
  refine codeAny_call_function (body := body) (fd := fnX name qual params body scope [] dV kV doc pm an cdv ct) hroom ho rfl hco hgen rfl (codeRec_of G'.K hcd) (hbind _ _ _ _ ?_)
  refine wpAny_newFunctionEnv_cells (s := s) hk (by rw [show (fnX name qual params body scope [] dV kV doc pm an cdv ct).scope = scope from rfl, hcl]; exact hkind _) (fun env he s₁ ic => ?_)
  subst he
  refine ⟨G'.lim.keeps ic.toInCall.keep, ?_⟩
  change InCallC s (callEnvC (fnX name qual params body scope [] dV kV doc pm an cdv ct) s.heap.objs.size f).locals (bindL (callEnvC (fnX name qual params body scope [] dV kV doc pm an cdv ct) s.heap.objs.size f).kindOf binds fun _ => none) (callEnvC (fnX name qual params body scope [] dV kV doc pm an cdv ct) s.heap.objs.size f).cells (bindC (callEnvC (fnX name qual params body scope [] dV kV doc pm an cdv ct) s.heap.objs.size f).kindOf binds fun _ => none) s₁ at ic
  show codeAny (MM w) A (.func body (callEnvC (fnX name qual params body scope [] dV kV doc pm an cdv ct) s.heap.objs.size f)) R s₁
  have ee : callEnvC (fnX name qual params body scope [] dV kV doc pm an cdv ct) s.heap.objs.size f = envX qual scope s.heap.objs.size f cdv (cl s.heap.objs.size) := by
    rw [← hcl]; rfl
  rw [ee] at ic ⊢
  refine bc fun hGo => ?_
  obtain ⟨h₁, tk, rfl⟩ := ic.toInCall.same
  refine hGo ?_; clear hGo
  have kb := ic.toInCall.keep
  have nL := none_of_size (h := s.heap)
  have nW : s.heap.objs.size ∉ W := fun q => by obtain ⟨o, e⟩ := S.live _ q; rw [nL] at e; cases e
  have gL : g.get? s.heap.objs.size = none := by
    cases q : g.get? s.heap.objs.size with
    | none => rfl
    | some o => have e := S.sub _ o q; rw [nL] at e; cases e
  exact codeAny_func (h s.heap.objs.size h₁ tk ⟨ic.toInCall.ns, ⟨fun b o e => kb b o (S.sub b o e), S.off, fun a q => let ⟨o, e⟩ := S.live a q; ⟨o, kb a o e⟩⟩, nW, gL, Keep2.all kb⟩ nL kb fun n c e => ic.cell n c e)
theorem Spec.more {fa k n n' q : Nat} {d : PyData} (e : Spec fa k w ts n p q d) (hn : n ≤ n') : Spec fa k w ts n' p q d := by
  intro A E s g W r D tl nd toks c Dc nm last dp f N Q G S R H hW hh hd hp hc cd lt hnm hnd nn nf hdn h
  exact e G S R H hW hh (by omega) hp hc cd lt hnm hnd nn nf (by omega) h
inductive Cd (ts : List Tx) : Nat → Nat → Nat → Nat → PyData → Prop
  | leaf {p q : Nat} {d : PyData} : Leaf ts p q d → Cd ts 0 0 p q d
  | br {n p q : Nat} {d : PyData} : ts[p]? = some (sg (ofString "(")) → Cd ts 2 n (p + 1) q d → ts[q]? = some (sg (ofString ")")) → Cd ts 0 (n + 1) p (q + 1) d
  | up {l n n' p q : Nat} {d : PyData} : Cd ts l n p q d → n ≤ n' → Cd ts l n' p q d
  | plain {n p q : Nat} {d : PyData} {t : Tx} : Cd ts 0 n p q d → ts[p]? = some t → (wordOf t == ofString "NOT") = false → Cd ts 1 n p q d
  | not {n p q : Nat} {d : PyData} : ts[p]? = some (wd (ofString "NOT")) → ts[p + 1]? = some (sg (ofString "(")) → Cd ts 0 n (p + 1) q d → Cd ts 1 n p q (.tuple [.str (ofString "not"), d])
  | one {n p q : Nat} {d : PyData} : Cd ts 1 n p q d → q < 2 ^ 29 → tokIs ts q "word" "AND" = false → tokIs ts q "word" "OR" = false → Cd ts 2 n p q d
  | and {n p q q1 : Nat} {d1 d2 : PyData} : Cd ts 1 n p q1 d1 → ts[q1]? = some (wd (ofString "AND")) → Cd ts 1 n (q1 + 1) q d2 → q < 2 ^ 29 → tokIs ts q "word" "AND" = false → tokIs ts q "word" "OR" = false → Cd ts 2 n p q (.tuple [.str (ofString "and"), d1, d2])
  | or {n p q q1 : Nat} {d1 d2 : PyData} : Cd ts 1 n p q1 d1 → ts[q1]? = some (wd (ofString "OR")) → Cd ts 1 n (q1 + 1) q d2 → q1 < 2 ^ 29 → q < 2 ^ 29 → tokIs ts q "word" "AND" = false → tokIs ts q "word" "OR" = false → Cd ts 2 n p q (.tuple [.str (ofString "or"), d1, d2])
theorem Cd.spec {l n q : Nat} {d : PyData} (x : Cd ts l n p q d) : (l = 0 → Spec 320 20 w ts n p q d) ∧ (l = 1 → Spec 313 22 w ts n p q d) ∧ (l = 2 → Spec 299 24 w ts n p q d) := by
  induction x with
  | leaf h => exact ⟨fun _ => S_single_leaf h, fun q => (by cases q), fun q => (by cases q)⟩
  | br h0 _ h1 ih => exact ⟨fun _ => S_single_br (S_in_brackets (ih.2.2 rfl) h0 h1) h0, fun q => (by cases q), fun q => (by cases q)⟩
  | up _ hn ih => exact ⟨fun q => Spec.more (ih.1 q) hn, fun q => Spec.more (ih.2.1 q) hn, fun q => Spec.more (ih.2.2 q) hn⟩
  | plain _ h0 h1 ih => exact ⟨fun q => (by cases q), fun _ => S_turned_plain (ih.1 rfl) h0 h1, fun q => (by cases q)⟩
  | not h0 h1 _ ih => exact ⟨fun q => (by cases q), fun _ => S_turned_not (ih.1 rfl) h0 h1, fun q => (by cases q)⟩
  | one _ h0 h1 h2 ih => exact ⟨fun q => (by cases q), fun q => (by cases q), fun _ => S_either_one (S_both_one (ih.2.1 rfl) h0 h1) h0 h2⟩
  | and _ h0 _ h1 h2 h3 ih1 ih2 => exact ⟨fun q => (by cases q), fun q => (by cases q), fun _ => S_either_one (S_both_and (ih1.2.1 rfl) h0 (ih2.2.1 rfl) h1 h2) h1 h3⟩
  | or _ h0 _ hq h1 h2 h3 ih1 ih2 => exact ⟨fun q => (by cases q), fun q => (by cases q), fun _ => S_either_or (S_both_one (ih1.2.1 rfl) hq ((tok_of_some h0).trans (by kernel_rfl))) h0 (S_both_one (ih2.2.1 rfl) h1 h2) h1 h3⟩
theorem n_cell2 {env : Env} {x : PySem.Str} {pos : Pos} {c : Addr} {v : Value} {Q : Value → Shared → Prop} (hl : env.kindOf x = some .cell) (hc : env.cells.lookup x = some c) (hv : s.heap.IsCell c (some v)) (h : Q v s)
    (hk : env.scope.kind = .function) (hd : (x == ("__debug__" : PySem.Str)) = false) : wpAny (MM w) A (eval (.Name x pos) env) Q E s := n_cell hc hv h hk hl hd
end
theorem said61 : True := by
  k_with "m:eval Name" => (guard_expr on4 =ₛ on4; refine n_cell2 (by kernel_rfl!) (by with_unfolding_all rfl) (by walk_at "cell") ?_ (by kernel_rfl!) (by kernel_rfl!))
  trivial
section
variable {h0 : Heap} {L : Addr} {m : PySem.Str → Option Value}
theorem C_read_condition {N n q : Nat} {d : PyData} {Q : Value → Shared → Prop} (G : Gd w g) (S : St g W s.heap) (R : RS w g r D tl nd toks ts) (H : RD w s.heap D tl p nd) (e : Spec 299 24 w ts n p q d) (hW : ∀ x ∈ ([D, 232, 379] : List Addr), x ∈ W) (hh : A.handled = none) (hd : A.depth + 26 + 10 * n < recursionLimit) (hp : p < 2 ^ 29)
    (lt : Lt s.heap 232 primPos primQual) (lu : Lt s.heap 379 nmPos nmQual) (hnd : nd = .ref N) (nn : NmD w g N) (hn : n ≤ 20)
    (h : ∀ a h' tk, Keep2 [D, 232, 379] s.heap h' → RD w h' D tl q nd → Lt h' 232 primPos primQual → Lt h' 379 nmPos nmQual → At h' (.ref a) d → Q (.ref a) { s with heap := h', toks := tk }) : wpAny (MM w) A (call (.ref 384) [.ref r]) Q E s := by
  w_top off
  have S1 : St g [D, 232, 379] s.heap := S.less hW
  refine wpAny_call ?_
  refine enterD (W := [D, 232, 379]) [("reader", .ref r), ("is_named", .none)] (fun L => [("reader", L + 1)]) G S1 ((fn_at G S (f384 w)).trans rfl) (by kernel_rfl) (by walk_at "dq") (BindsTo.of_defaults (T := 377) rfl (fn_at G S (f377 w)) rfl rfl rfl) (fun _ => rfl) (fun _ x hx => by
    rcases List.mem_cons.mp hx with rfl | hx
    · exact .inr ⟨rfl, rfl⟩
    · rw [List.mem_singleton.mp hx]; exact .inl rfl) ?_
  intro L h₁ tk C nL k0
  have dL : D ≠ L := ne_of_live H.live nL
  replace H := H.up k0
  subst hnd
  intro cells
  refine noE ?_
  have hcell : h₁.IsCell (L + 1) (some (.ref r)) := cells (ofString "reader") _ rfl
  have lt1 : Lt h₁ 232 primPos primQual := lt.go (Keep2.all (W := []) k0) (by simp)
  have lu1 : Lt h₁ 379 nmPos nmQual := lu.go (Keep2.all (W := []) k0) (by simp)
  have d232 : D ≠ 232 := lt1.ne_rd H
  have l232 : L ≠ 232 := lt1.ne_ns C.ns
  have d379 : D ≠ 379 := lu1.ne_rd H
  have l379 : L ≠ 379 := lu1.ne_ns C.ns
  have n1 : (379 : Nat) ≠ 232 := by decide
  have T0 : Ats h₁ [] := Ats.nil
  repeat walk1
  refine kla_eval rfl ?_
  refine mk_lam (P := 379) (c := 383) (pos := nmPos) (by assumption) (by assumption) (by simp) (by walk_at "lt") (by kernel_rfl) (by rfl) (by rfl) (by rfl) ?_
  intro f c' ctv pm h2 tk2 C2 k2 lu2 rc ef
  have H2 := RD.gs (by assumption) k2 (nin1 d379)
  have nf2 : NmF h2 f r := ⟨_, ⟨_, _, _, ef, rc⟩, IsCell.go k2 (by walk_at "cell")⟩
  have lt2 : Lt h2 232 primPos primQual := Lt.go2 k2 (by walk_at "lt") (nin1 n1.symm)
  have T2 := Ats.go k2 (by assumption)
  try dsimp only
  repeat walk1
  refine C_newCR (dp := 0) (by assumption) (Cx.st (by assumption)) (by walk_at "dp") fun x dx h3 tk3 k3 ndx ex cdx => ?_
  have z := Cx.none_of (by assumption) ndx
  have C3 := Cx.gs (by assumption) k3
  have H3 := RD.gs (by assumption) k3 List.not_mem_nil
  have lt3 : Lt h3 232 primPos primQual := Lt.go2 k3 (by assumption) List.not_mem_nil
  have lu3 : Lt h3 379 nmPos nmQual := Lt.go2 k3 (by assumption) List.not_mem_nil
  have T3 := Ats.go k3 (by assumption)
  have nf3 : NmF h3 f r := NmF.go k3 (by walk_at "nf")
  have x379 : (379 : Nat) ≠ dx := fun q => z.2.2.1 (q ▸ .tail _ (.tail _ (.head _)))
  try dsimp only
  repeat walk1
  refine e G (C3.st.add z.2.1 cdx.live) R H3 (sub3 (fun _ h => h)) (by assumption) (by first | walk_at "dr" | (show A.depth + 1 + 24 + 10 * n < _; omega)) (by omega) ex cdx lt3 rfl rfl nn nf3 (by omega) fun a h5 tk5 last5 k5 H5 lt5 cdx5 t5 => ?_
  have C5 := Cx.goX C3 k5 fun y q => by
    rcases List.mem_cons.mp q with rfl | q
    · exact .inl (.head _)
    rcases List.mem_cons.mp q with rfl | q
    · exact .inl (.tail _ (.head _))
    · rw [List.mem_singleton.mp q]; exact .inr ⟨z.1, z.2.2.2, z.2.1⟩
  have T5 := (Ats.go k5 T3).add t5
  have lu5 : Lt h5 379 nmPos nmQual := Lt.go2 k5 lu3 (nin333 d379.symm n1 x379)
  try dsimp only
  repeat walk1
  try dsimp only
  with_reducible show Q _ _
  exact h _ _ _ (Cx.keep (by assumption) nL) (by assumption) (by walk_at "lt") (by walk_at "lt") (by walk_at "at2")
end
theorem C_word_ahead {k : Nat} {u u2 : Tok} {y : PySem.Str} {t : Tx} {b : Bool} {Q : Value → Shared → Prop} (G : Gd w g) (S : St g W s.heap) (R : RS w g r D tl nd toks ts) (H : RD w s.heap D tl p nd) (hd : A.depth + 1 < recursionLimit) (hp : p < 2 ^ 29) (hk : k < 2 ^ 29) (ht : ts[p + k]? = some t) (hb : (t.1 == ofString "word" && t.2 == y) = b)
    (h : ∀ h' tk, Keep2 [] s.heap h' → Q (.bool b) { s with heap := h', toks := tk }) : wpAny (MM w) A (call (.ref 391) [.ref r, .int k u, .str y u2]) Q E s := by
  w_top off
  have S1 : St g [] s.heap := S.none
  refine enterN (W := []) [("reader", .ref r), ("ahead", .int k u), ("word", .str y u2)] G S1 ((fn_at G S (f391 w)).trans rfl) (by kernel_rfl) (by walk_at "dq") (BindsTo.of_eq rfl) (locs rfl) ?_ (by rfl)
  intro L h₁ tk C nL k0
  have dL : D ≠ L := ne_of_live H.live nL
  replace H := H.up k0
  have hq := R.lt ht
  cases hw : t.1 == ofString "word" with
  | false =>
    rw [hw, Bool.false_and] at hb
    subst hb
    repeat walk1
    try dsimp only
    with_reducible show Q _ _
    rw [hw]
    exact h _ _ (Cx.keep (by assumption) nL)
  | true =>
    rw [hw, Bool.true_and] at hb
    subst hb
    repeat walk1
    try dsimp only
    with_reducible show Q _ _
    exact h _ _ (Cx.keep (by assumption) nL)
theorem said62 : True := by
  k_with "m:call ref" => (guard_expr on4 =ₛ on4; (walk_plain_pass; (with_reducible show wpAny _ _ (call (Value.ref 391) _) _ _ _); (first | refine C_word_ahead (k := 0) (b := false) ‹_› (Cx.st ‹_›) ‹_› ‹_› (by walk_at "dp") (by walk_at "om") (by walk_at "om") ‹_› (by first | assumption | kernel_rfl!) ?_ | refine C_word_ahead (k := 0) (b := true) ‹_› (Cx.st ‹_›) ‹_› ‹_› (by walk_at "dp") (by walk_at "om") (by walk_at "om") ‹_› (by first | assumption | kernel_rfl!) ?_ | refine C_word_ahead  (b := false) ‹_› (Cx.st ‹_›) ‹_› ‹_› (by walk_at "dp") (by walk_at "om") (by walk_at "om") ‹_› (by first | assumption | kernel_rfl!) ?_ | refine C_word_ahead  (b := true) ‹_› (Cx.st ‹_›) ‹_› ‹_› (by walk_at "dp") (by walk_at "om") (by walk_at "om") ‹_› (by first | assumption | kernel_rfl!) ?_); walk_at "carry"))
  trivial
theorem tup1 {a : Addr} {h : Heap} {vs : List Value} (e : h.get? a = some (tupO vs)) : h.IsTuple a vs.toArray := ⟨_, e, rfl, _, rfl⟩
theorem C_phrase_words {u : Tok} {Q : Value → Shared → Prop} (G : Gd w g) (S : St g W s.heap) (hd : A.depth + 0 < recursionLimit) 
    (h : ∀ a a1 a2 a3 u1 u2 h' tk, Keep2 [] s.heap h' → h'.get? a = some (tupO [.ref a1, .ref a2, .ref a3]) → h'.get? a1 = some (tupO [.str (ofString "AT") u1]) → h'.get? a2 = some (tupO [.str (ofString "END") u2]) → h'.get? a3 = some (tupO []) → Q (.ref a) { s with heap := h', toks := tk }) : wpAny (MM w) A (call (.ref 398) [.str (ofString "end") u]) Q E s := by
  w_top off
  have S1 : St g [] s.heap := S.none
  refine enterN (W := []) [("key", .str (ofString "end") u)] G S1 ((fn_at G S (f398 w)).trans rfl) (by kernel_rfl) (by walk_at "dq") (BindsTo.of_eq rfl) (locs rfl) ?_ (by rfl)
  intro L h₁ tk C nL k0
  have T0 : Ats h₁ [] := Ats.nil
  repeat walk1
  try dsimp only
  with_reducible show Q _ _
  exact h _ _ _ _ _ _ _ _ (Cx.keep (by assumption) nL) (by walk_at "stab") (by walk_at "stab") (by walk_at "stab") (by walk_at "stab")
theorem said63 : True := by
  k_with "m:call ref" => (guard_expr on4 =ₛ on4; (walk_plain_pass; (with_reducible show wpAny _ _ (call (Value.ref 398) _) _ _ _); (refine C_phrase_words ‹_› (Cx.st ‹_›) (by walk_at "dp") ?_; intro _ _ _ _ _ _ _ _ kₘ e1ₘ e2ₘ e3ₘ e4ₘ; have Cₘ := Cx.gs ‹_› kₘ; (first | have Hₘ := RD.gs ‹_› kₘ (by walk_at "sm") | skip); walk_at "more"; try dsimp only)))
  trivial
theorem C_opening_length {u : Tok} {Q : Value → Shared → Prop} (G : Gd w g) (S : St g W s.heap) (R : RS w g r D tl nd toks ts) (H : RD w s.heap D tl p nd) (hh : A.handled = none) (hd : A.depth + 2 < recursionLimit) (hp : p < 2 ^ 29) (ht : ts[p]? = some (wd (ofString "WHEN")))
    (h : ∀ u h' tk, Keep2 [] s.heap h' → Q (.int 0 u) { s with heap := h', toks := tk }) : wpAny (MM w) A (call (.ref 405) [.ref r, .str (ofString "end") u]) Q E s := by
  w_top off
  have S1 : St g [] s.heap := S.none
  refine enterN (W := []) [("reader", .ref r), ("key", .str (ofString "end") u)] G S1 ((fn_at G S (f405 w)).trans rfl) (by kernel_rfl) (by walk_at "dq") (BindsTo.of_eq rfl) (locs rfl) ?_ (by rfl)
  intro L h₁ tk C nL k0
  have dL : D ≠ L := ne_of_live H.live nL
  replace H := H.up k0
  have hq := R.lt ht
  repeat walk1
  refine for_tuple (by assumption) (tup1 (by walk_at "stab")) List.not_mem_nil (by exact hh) (by kernel_rfl) (by kernel_rfl) fun I h3 nI C3 k3 => ?_
  have dI : D ≠ I := ne_of_live (RD.live (by assumption)) nI
  have a2I : _ ≠ I := ne_of_live ⟨_, (by walk_at "stab" : _ = some (tupO [Value.str (ofString "END") _]))⟩ nI
  have H3 := RD.gs (by assumption) k3 List.not_mem_nil
  show TurnsW _ _ _ _ _ _ _ _ _ _ _ _ _ (0 + 1) 0 _ _
  intro v h4 tk4 hP C4 k4 k5
  simp only [List.getElem?_toArray, List.getElem?_cons_zero, Option.some.injEq] at hP
  subst hP
  have H4 := H3.gs k4 (nin22 dL dI)
  clear k5
  repeat walk1
  try dsimp only
  refine ⟨⟨_, _, _, rfl, by assumption, ?_⟩⟩
  intro h6 tk6 C6 k6
  have H6 : RD w h6 D tl p nd := by
    obtain ⟨a1, a2, a3, a4, a5, e⟩ := (by assumption : RD w _ D tl p nd)
    exact ⟨a1, a2, a3, a4, a5, k6 _ _ e (nin1 dI)⟩
  have e6 := k6 _ _ (by walk_at "stab" : _ = some (tupO [Value.str (ofString "END") _])) (nin1 a2I)
  repeat walk1
  refine for_tuple (by assumption) (tup1 (by walk_at "stab")) List.not_mem_nil (by exact hh) (by kernel_rfl) (by kernel_rfl) fun J h7 nJ C7 k7 => ?_
  have dJ : D ≠ J := ne_of_live (RD.live (by assumption)) nJ
  have H7 := RD.gs (by assumption) k7 List.not_mem_nil
  show TurnsW _ _ _ _ _ _ _ _ _ _ _ _ _ (0 + 1) 0 _ _
  intro v h8 tk8 hP C8 k8 k9
  simp only [List.getElem?_toArray, List.getElem?_cons_zero, Option.some.injEq] at hP
  subst hP
  have H8 := H7.gs k8 (nin22 dL dJ)
  repeat walk1
  try dsimp only
  with_reducible show Q _ _
  exact h _ _ _ (Cx.keep (Cx.back (by assumption) (by assumption)) nL)
theorem said64 : True := by
  k_with "m:call ref" => (guard_expr on4 =ₛ on4; (walk_plain_pass; (with_reducible show wpAny _ _ (call (Value.ref 405) _) _ _ _); (refine C_opening_length ‹_› (Cx.st ‹_›) ‹_› ‹_› ‹_› (by walk_at "dp") (by walk_at "om") ‹_› ?_; walk_at "carry3")))
  trivial
theorem C_branches_here {rb : Value} {a : Addr} {u : Tok} {Q : Value → Shared → Prop} (G : Gd w g) (S : St g W s.heap) (R : RS w g r D tl nd toks ts) (H : RD w s.heap D tl p nd) (hh : A.handled = none) (hd : A.depth + 3 < recursionLimit) (hp : p < 2 ^ 29) (ht : ts[p]? = some (wd (ofString "WHEN"))) (e : s.heap.get? a = some (tupO [.str (ofString "end") u]))
    (h : ∀ b h' tk, Keep2 [] s.heap h' → h'.get? b = some (tupO []) → Q (.ref b) { s with heap := h', toks := tk }) : wpAny (MM w) A (call (.ref 419) [.ref r, rb, .ref a]) Q E s := by
  w_top off
  have S1 : St g [] s.heap := S.none
  refine enterN (W := []) [("reader", .ref r), ("read_body", rb), ("keys", .ref a)] G S1 ((fn_at G S (f419 w)).trans rfl) (by kernel_rfl) (by walk_at "dq") (BindsTo.of_eq rfl) (locs rfl) ?_ (by rfl)
  intro L h₁ tk C nL k0
  have dL : D ≠ L := ne_of_live H.live nL
  replace H := H.up k0
  have hq := R.lt ht
  have e1 := k0 _ _ e
  repeat walk1
  refine for_tuple (by assumption) (tup1 (by walk_at "stab")) List.not_mem_nil (by exact hh) (by kernel_rfl) (by kernel_rfl) fun I h3 nI C3 k3 => ?_
  have dI : D ≠ I := ne_of_live (RD.live (by assumption)) nI
  have lI := ne_of_live ⟨_, (by walk_at "kp" : _ = some (listOf (List.toArray []) 0))⟩ nI
  have H3 := RD.gs (by assumption) k3 List.not_mem_nil
  show TurnsW _ _ _ _ _ _ _ _ _ _ _ _ _ (0 + 1) 0 _ _
  intro v h4 tk4 hP C4 k4 k5
  simp only [List.getElem?_toArray, List.getElem?_cons_zero, Option.some.injEq] at hP
  subst hP
  have H4 := H3.gs k4 (nin22 dL dI)
  have i3 := k3.keep _ _ (by walk_at "kp" : _ = some (listOf (List.toArray []) 0)) List.not_mem_nil
  have i4 := k4.keep _ _ i3 (nin22 (by assumption) lI)
  clear k5
  repeat walk1
  try dsimp only
  refine ⟨⟨_, _, _, rfl, by assumption, ?_⟩⟩
  intro h6 tk6 C6 k6
  have H6 : RD w h6 D tl p nd := by
    obtain ⟨a1, a2, a3, a4, a5, e⟩ := (by assumption : RD w _ D tl p nd)
    exact ⟨a1, a2, a3, a4, a5, k6 _ _ e (nin1 dI)⟩
  have e6 := k6 _ _ (by walk_at "kp" : _ = some (listOf (List.toArray []) 0)) (nin1 lI)
  repeat walk1
  try dsimp only
  with_reducible show Q _ _
  exact h _ _ _ (Cx.keep (by assumption) nL) (by walk_at "stab")
theorem said65 : True := by
  k_with "m:call ref" => (guard_expr on4 =ₛ on4; (walk_plain_pass; (with_reducible show wpAny _ _ (call (Value.ref 419) _) _ _ _); (refine C_branches_here ‹_› (Cx.st ‹_›) ‹_› ‹_› ‹_› (by walk_at "dp") (by walk_at "om") ‹_› (by walk_at "stab") ?_; intro _ _ _ kₘ eₘ; have Cₘ := Cx.gs ‹_› kₘ; (first | have Hₘ := RD.gs ‹_› kₘ (by walk_at "sm") | skip); walk_at "more"; try dsimp only)))
  trivial
theorem At.noneE {h : Heap} {v : Value} (a : At h v .none) : v = .none := by
  generalize e : ([] : List Addr) = as at a
  cases a with
  | none => rfl
theorem tup_none {value slice : PySem.Expr} {a : Addr} {ds : List PyData} {k : Int} {u : Tok} {Q : Value → Shared → Prop} (y : At s.heap (.ref a) (.tuple ds)) (hk : 0 ≤ k) (hj : ds[k.toNat]? = some .none) (hz : ds.length < 100) (h : Q .none s)
    (hs : subscripted slice false (.ref a) (.int k u) = operate [.ref a, .int k u] (getItem (.ref a) (.int k u)) := by with_unfolding_all rfl) :
    wpAny (MM w) A (subscriptTail value slice (.ref a) (.int k u)) Q E s :=
  tup_item2 y hk hj hz (fun v e => by obtain rfl := e.noneE; exact h) hs
theorem hu1 {e : Env} {n : Nat} (h : A.units + 3 + n < cLine) : (A.deeper e).units + n < cLine := h
theorem said66 : True := by
  k_with "m:subscriptTail" => (guard_expr on4 =ₛ on4; (walk_plain_pass; refine tup_item2 (by walk_at "at2") (by decide) (by rfl) (by simp) ?_; intro vₘ aₘ; (first | (obtain ⟨uₘ, eₘ⟩ := At.strE aₘ; subst eₘ) | (have eₘ := At.noneE aₘ; subst eₘ) | (have Tₘ := Ats.add ‹_› aₘ))))
  k_with "m:hu" => (guard_expr on4 =ₛ on4; first | omega | exact hu1 (by omega) | fail "hu")
  k_with "m:compareOp NotEq ref ref" => (guard_expr on4 =ₛ on4; (walk_plain_pass; (refine ne_dataH (by walk_at "at2") (by walk_at "at2") (by kernel_rfl!) (by kernel_rfl!) (by walk_at "hu") ?_)))
  k_with "m:compareOp NotEq ref" => (guard_expr on4 =ₛ on4; (walk_plain_pass; (refine ne_dataH (by walk_at "at2") (by walk_at "at2") (by kernel_rfl!) (by kernel_rfl!) (by walk_at "hu") ?_)))
  k_with "m:compareOp Eq ref ref" => (guard_expr on4 =ₛ on4; (walk_plain_pass; (refine eq_dataH (by walk_at "at2") (by walk_at "at2") (by kernel_rfl!) (by kernel_rfl!) (by walk_at "hu") ?_)))
  k_with "m:compareOp Eq ref" => (guard_expr on4 =ₛ on4; (walk_plain_pass; (refine eq_dataH (by walk_at "at2") (by walk_at "at2") (by kernel_rfl!) (by kernel_rfl!) (by walk_at "hu") ?_)))
  k_with "m:call ref" => (guard_expr on4 =ₛ on4; (walk_plain_pass; (with_reducible show wpAny _ _ (call (Value.ref 160) _) _ _ _); (refine C_read_ref ‹_› (Cx.st ‹_›) ‹_› ‹_› (by walk_at "sm") ‹_› (by walk_at "dp") (by walk_at "om") ‹_› ‹_› ‹_› ?_; intro _ _ _ kₘ Hₘ tₘ; have Cₘ := Cx.gs ‹_› kₘ; walk_at "more"; try dsimp only)))
  trivial
theorem C_ref_here {x : PySem.Str} {t1 : Tx} {Q : Value → Shared → Prop} (G : Gd w g) (S : St g W s.heap) (R : RS w g r D tl nd toks ts) (H : RD w s.heap D tl p nd) (hD : D ∈ W) (hh : A.handled = none) (hd : A.depth + 6 < recursionLimit) (hp : p < 2 ^ 29) (ht : ts[p]? = some (wd x)) (hx : isNm x) (F : Foll ts (p + 1) t1)
    (h : ∀ a h' tk, Keep2 [D] s.heap h' → RD w h' D tl (p + 1) nd → At h' (.ref a) (refD x) → Q (.ref a) { s with heap := h', toks := tk }) : wpAny (MM w) A (call (.ref 426) [.ref r]) Q E s := by
  w_top off
  have S1 : St g [D] s.heap := S.less (sub1 hD)
  refine enterN (W := [D]) [("reader", .ref r)] G S1 ((fn_at G S (f426 w)).trans rfl) (by kernel_rfl) (by walk_at "dq") (BindsTo.of_eq rfl) (locs rfl) ?_ (by rfl)
  intro L h₁ tk C nL k0
  have dL : D ≠ L := ne_of_live H.live nL
  replace H := H.up k0
  have hq := R.lt ht
  have T0 : Ats h₁ [] := Ats.nil
  repeat walk1
  try dsimp only
  with_reducible show Q _ _
  exact h _ _ _ (Cx.keep (by assumption) nL) (by assumption) (by walk_at "at2")
theorem said67 : True := by
  k_with "m:call ref" => (guard_expr on4 =ₛ on4; (walk_plain_pass; (with_reducible show wpAny _ _ (call (Value.ref 426) _) _ _ _); (refine C_ref_here ‹_› (Cx.st ‹_›) ‹_› ‹_› (by walk_at "sm") ‹_› (by walk_at "dp") (by walk_at "om") ‹_› ‹_› ‹_› ?_; intro _ _ _ kₘ Hₘ tₘ; have Cₘ := Cx.gs ‹_› kₘ; walk_at "more"; try dsimp only)))
  trivial
theorem C_table_here {x : PySem.Str} {t1 : Tx} {Q : Value → Shared → Prop} (G : Gd w g) (S : St g W s.heap) (R : RS w g r D tl nd toks ts) (H : RD w s.heap D tl p nd) (hD : D ∈ W) (hh : A.handled = none) (hd : A.depth + 7 < recursionLimit) (hp : p < 2 ^ 29) (hu : A.units + 70 < cLine) (ht : ts[p]? = some (wd x)) (hx : isNm x) (F : Foll ts (p + 1) t1)
    (h : ∀ a h' tk, Keep2 [D] s.heap h' → RD w h' D tl (p + 1) nd → At h' (.ref a) (refD x) → Q (.ref a) { s with heap := h', toks := tk }) : wpAny (MM w) A (call (.ref 447) [.ref r]) Q E s := by
  w_top off
  have S1 : St g [D] s.heap := S.less (sub1 hD)
  refine enterN (W := [D]) [("reader", .ref r)] G S1 ((fn_at G S (f447 w)).trans rfl) (by kernel_rfl) (by walk_at "dq") (BindsTo.of_eq rfl) (locs rfl) ?_ (by rfl)
  intro L h₁ tk C nL k0
  have dL : D ≠ L := ne_of_live H.live nL
  replace H := H.up k0
  have hq := R.lt ht
  have T0 : Ats h₁ [] := Ats.nil
  repeat walk1
  try dsimp only
  with_reducible show Q _ _
  exact h _ _ _ (Cx.keep (by assumption) nL) (by assumption) (by walk_at "at2")
theorem said68 : True := by
  k_with "m:call ref" => (guard_expr on4 =ₛ on4; (walk_plain_pass; (with_reducible show wpAny _ _ (call (Value.ref 447) _) _ _ _); (refine C_table_here ‹_› (Cx.st ‹_›) ‹_› ‹_› (by walk_at "sm") ‹_› (by walk_at "dp") (by walk_at "om") (by walk_at "hu") ‹_› ‹_› ‹_› ?_; intro _ _ _ kₘ Hₘ tₘ; have Cₘ := Cx.gs ‹_› kₘ; walk_at "more"; try dsimp only)))
  trivial
theorem At.tupE {h : Heap} {v : Value} {ds : List PyData} (a : At h v (.tuple ds)) : ∃ x, v = .ref x := by
  generalize e : ([] : List Addr) = as at a
  cases a with
  | tuple h1 h2 h3 h4 => exact ⟨_, rfl⟩
def KSpec (w : World) (d : PyData) (b : Bool) (n : Nat) : Prop :=
  ∀ {A : Around} {E : Value → Shared → Prop} {s : Shared} {g : Heap} {W : List Addr} {v : Value} {Q : Value → Shared → Prop} (_ : Gd w g) (_ : St g W s.heap) (_ : At s.heap v d) (_ : A.depth + n < recursionLimit)
    (_ : ∀ h' tk, Keep2 [] s.heap h' → Q (.bool b) { s with heap := h', toks := tk }), wpAny (MM w) A (call (.ref 440) [v]) Q E s
theorem KSpec.call {d : PyData} {b : Bool} {n : Nat} {v : Value} {Q : Value → Shared → Prop} (G : Gd w g) (S : St g W s.heap) (a : At s.heap v d) (e : KSpec w d b n) (hd : A.depth + n < recursionLimit)
    (h : ∀ h' tk, Keep2 [] s.heap h' → Q (.bool b) { s with heap := h', toks := tk }) : wpAny (MM w) A (call (.ref 440) [v]) Q E s := e G S a hd h
theorem said69 : True := by
  k_with "m:call ref" => (guard_expr on4 =ₛ on4; (walk_plain_pass; (with_reducible show wpAny _ _ (call (Value.ref 440) _) _ _ _); (refine KSpec.call ‹_› (Cx.st ‹_›) (by walk_at "at2") ‹_› (by walk_at "dp") ?_; intro _ _ kₘ; have Cₘ := Cx.gs ‹_› kₘ; (first | have Hₘ := RD.gs ‹_› kₘ (by walk_at "sm") | skip); walk_at "more"; try dsimp only)))
  k_with "m:subscriptTail" => (guard_expr on4 =ₛ on4; (walk_plain_pass; refine tup_item2 (by walk_at "at2") (by decide) (by rfl) (by first | (simp; done) | (simp only [List.length_cons]; omega)) ?_; intro vₘ aₘ; (first | (obtain ⟨uₘ, eₘ⟩ := At.strE aₘ; subst eₘ) | (have eₘ := At.noneE aₘ; subst eₘ) | (obtain ⟨uₘ, eₘ⟩ := At.tupE aₘ; subst eₘ; have Tₘ := Ats.add ‹_› aₘ) | (have Tₘ := Ats.add ‹_› aₘ))))
  trivial
theorem K_and {w : World} {d1 d2 : PyData} {b1 b2 : Bool} {n : Nat} (e1 : KSpec w d1 b1 n) (e2 : KSpec w d2 b2 n) : KSpec w (.tuple [.str (ofString "and"), d1, d2]) (b1 && b2) (n + 1) := by
  w_top off
  intro A E s g W v Q G S ha hd h
  refine bc fun hGo => ?_
  obtain ⟨a, rfl⟩ := ha.tupE
  refine hGo ?_; clear hGo
  refine enterN (W := []) [("cond", .ref a)] G S.none ((fn_at G S (f440 w)).trans rfl) (by kernel_rfl) (by walk_at "dq") (BindsTo.of_eq rfl) (locs rfl) ?_ (by rfl)
  intro L h₁ tk C nL k0
  have T0 : Ats h₁ [(.ref a, .tuple [.str (ofString "and"), d1, d2])] := Ats.nil.add (At.go (Keep2.all (W := []) k0) ha)
  cases b1 with
  | false =>
    repeat walk1
    try dsimp only
    with_reducible show Q _ _
    exact h _ _ (Cx.keep (by assumption) nL)
  | true =>
    repeat walk1
    try dsimp only
    with_reducible show Q _ _
    exact h _ _ (Cx.keep (by assumption) nL)
theorem K_named {w : World} {d1 : PyData}  : KSpec w (.tuple [.str (ofString "named"), d1]) (true) 0 := by
  w_top off
  intro A E s g W v Q G S ha hd h
  refine bc fun hGo => ?_
  obtain ⟨a, rfl⟩ := ha.tupE
  refine hGo ?_; clear hGo
  refine enterN (W := []) [("cond", .ref a)] G S.none ((fn_at G S (f440 w)).trans rfl) (by kernel_rfl) (by walk_at "dq") (BindsTo.of_eq rfl) (locs rfl) ?_ (by rfl)
  intro L h₁ tk C nL k0
  have T0 : Ats h₁ [(.ref a, .tuple [.str (ofString "named"), d1])] := Ats.nil.add (At.go (Keep2.all (W := []) k0) ha)
  repeat walk1
  try dsimp only
  with_reducible show Q _ _
  exact h _ _ (Cx.keep (by assumption) nL)
theorem K_rel {w : World} {y k : PySem.Str} {ds : List PyData} {d2 : PyData} (hl : ds.length < 90) : KSpec w (.tuple [.str (ofString "rel"), .str y, .tuple (.str k :: ds), d2]) (y == ofString "=" && k == ofString "ref") 0 := by
  w_top off
  intro A E s g W v Q G S ha hd h
  refine bc fun hGo => ?_
  obtain ⟨a, rfl⟩ := ha.tupE
  refine hGo ?_; clear hGo
  refine enterN (W := []) [("cond", .ref a)] G S.none ((fn_at G S (f440 w)).trans rfl) (by kernel_rfl) (by walk_at "dq") (BindsTo.of_eq rfl) (locs rfl) ?_ (by rfl)
  intro L h₁ tk C nL k0
  have T0 : Ats h₁ [(.ref a, .tuple [.str (ofString "rel"), .str y, .tuple (.str k :: ds), d2])] := Ats.nil.add (At.go (Keep2.all (W := []) k0) ha)
  cases hy : y == ofString "=" with
  | false =>
    rw [hy, Bool.false_and] at h
    repeat walk1
    try dsimp only
    with_reducible show Q _ _
    rw [hy]
    exact h _ _ (Cx.keep (by assumption) nL)
  | true =>
    rw [hy, Bool.true_and] at h
    repeat walk1
    try dsimp only
    with_reducible show Q _ _
    exact h _ _ (Cx.keep (by assumption) nL)
theorem K_other {w : World} {x : PySem.Str} {ds : List PyData} (hl : ds.length < 90) (n1 : (x == ofString "and") = false) (n2 : (x == ofString "named") = false) (n3 : (x == ofString "rel") = false) : KSpec w (.tuple (.str x :: ds)) (false) 0 := by
  w_top off
  intro A E s g W v Q G S ha hd h
  refine bc fun hGo => ?_
  obtain ⟨a, rfl⟩ := ha.tupE
  refine hGo ?_; clear hGo
  refine enterN (W := []) [("cond", .ref a)] G S.none ((fn_at G S (f440 w)).trans rfl) (by kernel_rfl) (by walk_at "dq") (BindsTo.of_eq rfl) (locs rfl) ?_ (by rfl)
  intro L h₁ tk C nL k0
  have T0 : Ats h₁ [(.ref a, .tuple (.str x :: ds))] := Ats.nil.add (At.go (Keep2.all (W := []) k0) ha)
  repeat walk1
  try dsimp only
  with_reducible show Q _ _
  rw [n3]
  exact h _ _ (Cx.keep (by assumption) nL)
abbrev rbParams : Arguments := { posonlyargs := [], args := [{ arg := "inner", annotation := none, pos := ⟨603, 42, 603, 47⟩ }], vararg := none, kwonlyargs := [], kw_defaults := [], kwarg := none, defaults := [] }
abbrev rbBody : PySem.Expr := PySem.Expr.IfExp (((PySem.Expr.Name "inner" ⟨603, 69, 603, 74⟩).Attribute "skip" ⟨603, 69, 603, 79⟩).Call [PySem.Expr.Constant (Const.str "CONTINUE") 0 ⟨603, 80, 603, 90⟩] [] ⟨603, 69, 603, 91⟩) (PySem.Expr.Tuple [PySem.Expr.Tuple [PySem.Expr.Constant (Const.str "continue") 0 ⟨603, 51, 603, 61⟩] 0 ⟨603, 50, 603, 63⟩] 0 ⟨603, 49, 603, 65⟩) (PySem.Expr.Tuple [] 0 ⟨603, 97, 603, 99⟩) ⟨603, 49, 603, 99⟩
abbrev rbScope : Scope := { kind := .function, names := [("inner", .local)], isGenerator := false, isCoroutine := false }
abbrev rbPos : Pos := ⟨603, 35, 603, 99⟩
abbrev rbQual : PySem.Str := ofString "_law_right" ++ ofString ".<locals>." ++ ofString "<lambda>"
abbrev contD : PyData := .tuple [.tuple [.str (ofString "continue")]]
structure RbF (h : Heap) (f : Addr) : Prop where
  at_ : LamAt h f rbParams rbBody rbScope rbQual []
theorem RbF.go {h h' : Heap} {X : List Addr} {f : Addr} (k : Keep2 X h h') (x : RbF h f) : RbF h' f := ⟨x.at_.go k⟩
theorem RbF.fn {h : Heap} {f : Addr} (x : RbF h f) : FnAt f h := x.at_.fn
theorem C_read_body {f : Addr} {Q : Value → Shared → Prop} (G : Gd w g) (S : St g W s.heap) (R : RS w g r D tl nd toks ts) (H : RD w s.heap D tl p nd) (hD : D ∈ W) (rb : RbF s.heap f) (hh : A.handled = none) (hd : A.depth + 4 < recursionLimit) (hp : p < 2 ^ 29) (ht : ts[p]? = some (wd (ofString "CONTINUE")))
    (h : ∀ a h' tk, Keep2 [D] s.heap h' → RD w h' D tl (p + 1) nd → At h' (.ref a) contD → Q (.ref a) { s with heap := h', toks := tk }) : wpAny (MM w) A (call (.ref f) [.ref r]) Q E s := by
  w_top off
  refine bc fun hGo => ?_
  obtain ⟨pm, c', ctv, hf, hr⟩ := rb.at_
  refine hGo ?_; clear hGo
  have S1 : St g [D] s.heap := S.less (sub1 hD)
  refine wpAny_call ?_
  refine enterE (W := [D]) [("inner", .ref r)] G S1 hf hr (by omega) rfl (locs rfl) ?_ (by decide)
  intro L h₁ tk C nL k0
  refine noE ?_
  have dL : D ≠ L := ne_of_live H.live nL
  replace H := H.up k0
  have T0 : Ats h₁ [] := Ats.nil
  repeat walk1
  try dsimp only
  with_reducible show Q _ _
  exact h _ _ _ (Cx.keep (by assumption) nL) (by assumption) (by walk_at "at2")
theorem said70 : True := by
  k_with "m:rb" => (guard_expr on4 =ₛ on4; first | assumption | exact RbF.go ‹_› (by walk_at "rb") | fail "rb")
  k_with "m:And" => (guard_expr on4 =ₛ on4; refine ⟨RbF.fn (by walk_at "rb"), ?_⟩)
  k_with "m:callWith ref" => (guard_expr on4 =ₛ on4; (walk_plain_pass; (fail_if_success (with_reducible show wpAny _ _ (callWith _ (Mine.r (@OfNat.ofNat Nat _ _)) _ _ _) _ _ _)); refine c_lam (RbF.fn (by walk_at "rb")) ?_))
  k_with "m:call ref" => (guard_expr on4 =ₛ on4; (walk_plain_pass; (with_reducible show wpAny _ _ (call _ [Value.ref _]) _ _ _); (refine C_read_body ‹_› (Cx.st ‹_›) ‹_› ‹_› (by walk_at "sm") (by walk_at "rb") ‹_› (by walk_at "dp") (by walk_at "om") ‹_› ?_; intro _ _ _ kₘ Hₘ tₘ; have Cₘ := Cx.gs ‹_› kₘ; walk_at "more"; try dsimp only)))
  trivial
theorem C_body_here {f : Addr} {Q : Value → Shared → Prop} (G : Gd w g) (S : St g W s.heap) (R : RS w g r D tl nd toks ts) (H : RD w s.heap D tl p nd) (hD : D ∈ W) (hh : A.handled = none) (hd : A.depth + 5 < recursionLimit) (hp : p < 2 ^ 29) (hu : A.units + 70 < cLine) (rb : RbF s.heap f) (ht : ts[p]? = some (wd (ofString "CONTINUE")))
    (h : ∀ a h' tk, Keep2 [D] s.heap h' → RD w h' D tl (p + 1) nd → At h' (.ref a) contD → Q (.ref a) { s with heap := h', toks := tk }) : wpAny (MM w) A (call (.ref 412) [.ref r, .ref f]) Q E s := by
  w_top off
  have S1 : St g [D] s.heap := S.less (sub1 hD)
  refine enterN (W := [D]) [("reader", .ref r), ("read_body", .ref f)] G S1 ((fn_at G S (f412 w)).trans rfl) (by kernel_rfl) (by walk_at "dq") (BindsTo.of_eq rfl) (locs rfl) ?_ (by rfl)
  intro L h₁ tk C nL k0
  have dL : D ≠ L := ne_of_live H.live nL
  replace H := H.up k0
  have hq := R.lt ht
  have T0 : Ats h₁ [] := Ats.nil
  have rb1 : RbF h₁ f := rb.go (Keep2.all (W := []) k0)
  repeat walk1
  try dsimp only
  with_reducible show Q _ _
  exact h _ _ _ (Cx.keep (by assumption) nL) (by assumption) (by walk_at "at2")
theorem said71 : True := by
  k_with "m:call ref" => (guard_expr on4 =ₛ on4; (walk_plain_pass; (with_reducible show wpAny _ _ (call (Value.ref 412) _) _ _ _); (refine C_body_here ‹_› (Cx.st ‹_›) ‹_› ‹_› (by walk_at "sm") ‹_› (by walk_at "dp") (by walk_at "om") (by walk_at "hu") (by walk_at "rb") ‹_› ?_; intro _ _ _ kₘ Hₘ tₘ; have Cₘ := Cx.gs ‹_› kₘ; walk_at "more"; try dsimp only)))
  trivial
section
variable {h0 : Heap} {L : Addr} {m : PySem.Str → Option Value}
theorem add_empty {t b : Addr} {ws : List Value} {Q : Value → Shared → Prop} (C : Cx g W h0 L m s.heap) (ht : s.heap.get? t = some (tupO [])) (hb : s.heap.get? b = some (tupO ws)) (h : Q (.ref b) s) (hz : ws.length ≤ 100 := by exact Nat.le_of_ble_eq_true rfl) : wpAny (MM w) A (binaryOp .Add (.ref t) (.ref b)) Q E s := by
  have F0 : Fr ({} : Heap) L s.heap m := ⟨C.ns, fun b o q => by simp [Heap.get?] at q, Nat.zero_le _⟩
  exact add_tuples F0 News.nil ⟨_, ht, rfl, _, rfl⟩ ⟨_, hb, rfl, _, rfl⟩ (fun _ => h) (fun e => absurd rfl e) (fun e => absurd rfl e) (by simp [PySem.sizeLine_eq]; omega)
end
theorem said72 : True := by
  k_with "m:binaryOp Add ref ref" => (guard_expr on4 =ₛ on4; (walk_plain_pass; (refine add_empty ‹_› (by walk_at "stab") (by walk_at "stab") ?_)))
  trivial
section
variable {h0 : Heap} {L : Addr} {m : PySem.Str → Option Value}
end
theorem said73 : True := by
  k_with "m:call ref" => (guard_expr on4 =ₛ on4; (walk_plain_pass; (with_reducible show wpAny _ _ (call (Value.ref 384) _) _ _ _); (refine C_read_condition ‹_› (Cx.st ‹_›) ‹_› ‹_› ‹_› (fun _ h => h) ‹_› (dp3 (by walk_at "om")) (by walk_at "om") (by walk_at "lt") (by walk_at "lt") ‹_› ‹_› (by walk_at "om") ?_; intro _ _ _ kₘ Hₘ ltₘ luₘ tₘ; have Cₘ := Cx.gs ‹_› kₘ; (first | have Tₘ := Ats.add (Ats.go kₘ ‹_›) tₘ | skip); try dsimp only)))
  trivial
section
variable {h0 : Heap} {L : Addr} {m : PySem.Str → Option Value}
end
theorem said74 : True := by
  k_with "m:newTuple" => (guard_expr on4 =ₛ on4; (walk_plain_pass; refine new_tuple ?_; intro aₘ hₘ kₘ eₘ; have Cₘ := Cx.gs ‹_› kₘ; (first | have Hₘ := RD.gs ‹_› kₘ (by walk_at "sm") | skip); have Tₘ := Ats.go kₘ ‹_›; (first | (have tₘ := At.tup eₘ (by walk_at "ats2"); have Tₘₘ := Ats.add Tₘ tₘ) | skip); (first | have hcₘ := inst_go kₘ ‹_› | skip); (first | have cdₘ := CD.go2 kₘ ‹_› List.not_mem_nil | skip); (first | have ltₘ := Lt.go2 kₘ ‹_› List.not_mem_nil | skip); try dsimp only))
  trivial
section
variable {h0 : Heap} {L : Addr} {m : PySem.Str → Option Value}
end
theorem said75 : True := by
  k_with "m:more" => (guard_expr on4 =ₛ on4; (
      (first | have Tₘ := Ats.go ‹_› ‹_› | skip);
      (first | have Tₘ := Ats.add ‹_› ‹_› | skip);
      (first | have hcₘ := inst_go ‹_› ‹_› | skip);
      (first | have cdₘ := CD.go2 ‹_› ‹_› (by walk_at "nin3") | skip);
      (first | have ltₘ : Lt _ 232 _ _ := Lt.go2 ‹_› ‹_› (by walk_at "nin2") | skip);
      (first | have luₘ : Lt _ 379 _ _ := Lt.go2 ‹_› ‹_› (by walk_at "nin2") | skip)))
  trivial
section
variable {h0 : Heap} {L : Addr} {m : PySem.Str → Option Value}
theorem C_search_all {f N n q : Nat} {d : PyData} {Q : Value → Shared → Prop} (G : Gd w g) (S : St g W s.heap) (R : RS w g r D tl nd toks ts) (H : RD w s.heap D tl p nd) (hW : ∀ x ∈ ([D, 232, 379] : List Addr), x ∈ W) (hh : A.handled = none) (hd : A.depth + 40 + 10 * n < recursionLimit) (hp : p < 2 ^ 29) (hu : A.units + 80 < cLine) (lt : Lt s.heap 232 primPos primQual) (lu : Lt s.heap 379 nmPos nmQual) (hnd : nd = .ref N) (nn : NmD w g N) (rb : RbF s.heap f) (hn : n ≤ 20) (ht : ts[p]? = some (wd (ofString "T"))) (h1 : ts[p + 1]? = some (wd (ofString "WHEN"))) (e : Spec 299 24 w ts n (p + 1 + 1) q d) (ke : KSpec w d true 10) (h2 : ts[q]? = some (wd (ofString "CONTINUE"))) (h3 : ts[q + 1]? = some (sg (ofString ".")))
    (h : ∀ a h' tk, Keep2 [D, 232, 379] s.heap h' → RD w h' D tl (q + 1) nd → Lt h' 232 primPos primQual → Lt h' 379 nmPos nmQual → At h' (.ref a) (.tuple [.str (ofString "search-all"), refD (ofString "T"), d, .tuple [.tuple [.str (ofString "when 0"), contD]]]) → Q (.ref a) { s with heap := h', toks := tk }) : wpAny (MM w) A (call (.ref 454) [.ref r, .ref f]) Q E s := by
  w_top off
  have S1 : St g [D, 232, 379] s.heap := S.less hW
  refine enterN (W := [D, 232, 379]) [("reader", .ref r), ("read_body", .ref f)] G S1 ((fn_at G S (f454 w)).trans rfl) (by kernel_rfl) (by walk_at "dq") (BindsTo.of_eq rfl) (locs rfl) ?_ (by rfl)
  intro L h₁ tk C nL k0
  have dL : D ≠ L := ne_of_live H.live nL
  replace H := H.up k0
  have hq := R.lt ht
  have dL0 := dL
  have lt1 : Lt h₁ 232 primPos primQual := lt.go (Keep2.all (W := []) k0) (by simp)
  have lu1 : Lt h₁ 379 nmPos nmQual := lu.go (Keep2.all (W := []) k0) (by simp)
  have d232 : D ≠ 232 := lt1.ne_rd H
  have l232 : L ≠ 232 := lt1.ne_ns C.ns
  have d379 : D ≠ 379 := lu1.ne_rd H
  have l379 : L ≠ 379 := lu1.ne_ns C.ns
  have T0 : Ats h₁ [] := Ats.nil
  have rb1 : RbF h₁ f := rb.go (Keep2.all (W := []) k0)
  have hq := R.lt ht
  have hq0 := R.lt h2
  have F1 : Foll ts (p + 1) (wd (ofString "WHEN")) := ⟨h1, by kernel_rfl!⟩
  have hT : isNm (ofString "T") := .inr (.inr (.inr (.inl rfl)))
  repeat walk1
  try dsimp only
  with_reducible show Q _ _
  exact h _ _ _ (Cx.keep (by assumption) nL) (by assumption) (by walk_at "lt") (by walk_at "lt") (by walk_at "at2")
end
theorem C_search_all_no {f N n q : Nat} {d : PyData} {fs : List Env} {Q : Value → Shared → Prop} (G : Gd w g) (S : St g W s.heap) (R : RS w g r D tl nd toks ts) (H : RD w s.heap D tl p nd) (hW : ∀ x ∈ ([D, 232, 379] : List Addr), x ∈ W) (hh : A.handled = none) (hd : A.depth + 40 + 10 * n < recursionLimit) (hp : p < 2 ^ 29) (hu : A.units + 80 < cLine) (lt : Lt s.heap 232 primPos primQual) (lu : Lt s.heap 379 nmPos nmQual) (hnd : nd = .ref N) (nn : NmD w g N) (rb : RbF s.heap f) (hn : n ≤ 20) (ht : ts[p]? = some (wd (ofString "T"))) (h1 : ts[p + 1]? = some (wd (ofString "WHEN"))) (e : Spec 299 24 w ts n (p + 1 + 1) q d) (ke : KSpec w d false 10) (h2 : ts[q]? = some (wd (ofString "CONTINUE"))) (h3 : ts[q + 1]? = some (sg (ofString "."))) (h4 : ∃ t, ts[p + 1 + 1]? = some t) (hfr : A.frames = some fs) (ff : FF [D, 232, 379] s.heap fs)
    (h : ∀ e d h' tk, Fly [D, 232, 379] fs 72 (.tuple [.int (((p + 1 + 1 : Nat) : Int) + 1), .int 12]) s.heap h' e d .none → Lt h' 232 primPos primQual → Lt h' 379 nmPos nmQual → E (.ref e) { s with heap := h', toks := tk }) : wpAny (MM w) A (call (.ref 454) [.ref r, .ref f]) Q E s := by
  w_top off
  have S1 : St g [D, 232, 379] s.heap := S.less hW
  refine wpAny_call ?_
  refine enter2 (W := [D, 232, 379]) [("reader", .ref r), ("read_body", .ref f)] G S1 ((fn_at G S (f454 w)).trans rfl) (by kernel_rfl) (by walk_at "dq") (BindsTo.of_eq rfl) (locs rfl) ?_ (by decide)
  intro L h₁ tk C nL k0
  have dL : D ≠ L := ne_of_live H.live nL
  replace H := H.up k0
  have hq := R.lt ht
  have dL0 := dL
  have lt1 : Lt h₁ 232 primPos primQual := lt.go (Keep2.all (W := []) k0) (by simp)
  have lu1 : Lt h₁ 379 nmPos nmQual := lu.go (Keep2.all (W := []) k0) (by simp)
  have d232 : D ≠ 232 := lt1.ne_rd H
  have l232 : L ≠ 232 := lt1.ne_ns C.ns
  have d379 : D ≠ 379 := lu1.ne_rd H
  have l379 : L ≠ 379 := lu1.ne_ns C.ns
  have T0 : Ats h₁ [] := Ats.nil
  have rb1 : RbF h₁ f := rb.go (Keep2.all (W := []) k0)
  have hq := R.lt ht
  have hq0 := R.lt h2
  have F1 : Foll ts (p + 1) (wd (ofString "WHEN")) := ⟨h1, by kernel_rfl!⟩
  have hT : isNm (ofString "T") := .inr (.inr (.inr (.inl rfl)))
  refine bc fun hGo => ?_
  obtain ⟨t4, ht4⟩ := h4
  refine hGo ?_; clear hGo
  repeat walk1
  try dsimp only
  refine C_refuse_at (m := p + 1 + 1) (by assumption) (Cx.st (by assumption)) (by assumption) (by assumption) (by simp) hh (by first | walk_at "dr" | (show A.depth + 1 + 6 < _; omega)) (by omega) ht4 (Around.frames_deeper hfr) (FF.less (FF.push ff (by assumption) nL (fun q => nomatch q) rfl) (by simp)) fun e d h5 tk5 F => ?_
  have F2 := F.more (W' := [D, 232, 379]) (by simp)
  have lt5 : Lt h5 232 primPos primQual := Lt.fly (by walk_at "lt") F (nin1 d232.symm) (FF.nlt (W := [D, 232, 379]) (FF.push ff (by assumption) nL (fun q => nomatch q) rfl) (by simp))
  have lu5 : Lt h5 379 nmPos nmQual := Lt.fly (by walk_at "lt") F (nin1 d379.symm) (FF.nlt (W := [D, 232, 379]) (FF.push ff (by assumption) nL (fun q => nomatch q) rfl) (by simp))
  refine leave_next hfr ff (by assumption) nL (fun q => nomatch q) rfl F2 fun h6 F6 q6 => ?_
  exact h e d h6 _ F6 (lt5.quiet q6 (Lt.live (pos := primPos) (qual := primQual) (by walk_at "lt")) (FF.nlt (W := [D, 232, 379]) (FF.push ff (by assumption) nL (fun q => nomatch q) rfl) (by simp))) (lu5.quiet q6 (Lt.live (pos := nmPos) (qual := nmQual) (by walk_at "lt")) (FF.nlt (W := [D, 232, 379]) (FF.push ff (by assumption) nL (fun q => nomatch q) rfl) (by simp)))
theorem C_read_search_all {f N n q : Nat} {d : PyData} {Q : Value → Shared → Prop} (G : Gd w g) (S : St g W s.heap) (R : RS w g r D tl nd toks ts) (H : RD w s.heap D tl p nd) (hW : ∀ x ∈ ([D, 232, 379] : List Addr), x ∈ W) (hh : A.handled = none) (hd : A.depth + 41 + 10 * n < recursionLimit) (hp : p < 2 ^ 29) (hu : A.units + 90 < cLine) (lt : Lt s.heap 232 primPos primQual) (lu : Lt s.heap 379 nmPos nmQual) (hnd : nd = .ref N) (nn : NmD w g N) (rb : RbF s.heap f) (hn : n ≤ 20) (h0 : ts[p]? = some (wd (ofString "SEARCH"))) (ha : ts[p + 1]? = some (wd (ofString "ALL"))) (ht : ts[p + 1 + 1]? = some (wd (ofString "T"))) (h1 : ts[p + 1 + 1 + 1]? = some (wd (ofString "WHEN"))) (e : Spec 299 24 w ts n (p + 1 + 1 + 1 + 1) q d) (ke : KSpec w d true 10) (h2 : ts[q]? = some (wd (ofString "CONTINUE"))) (h3 : ts[q + 1]? = some (sg (ofString ".")))
    (h : ∀ a h' tk, Keep2 [D, 232, 379] s.heap h' → RD w h' D tl (q + 1) nd → Lt h' 232 primPos primQual → Lt h' 379 nmPos nmQual → At h' (.ref a) (.tuple [.str (ofString "search-all"), refD (ofString "T"), d, .tuple [.tuple [.str (ofString "when 0"), contD]]]) → Q (.ref a) { s with heap := h', toks := tk }) : wpAny (MM w) A (call (.ref 461) [.ref r, .ref f]) Q E s := by
  w_top off
  have S1 : St g [D, 232, 379] s.heap := S.less hW
  refine enterN (W := [D, 232, 379]) [("reader", .ref r), ("read_body", .ref f)] G S1 ((fn_at G S (f461 w)).trans rfl) (by kernel_rfl) (by walk_at "dq") (BindsTo.of_eq rfl) (locs rfl) ?_ (by rfl)
  intro L h₁ tk C nL k0
  have dL : D ≠ L := ne_of_live H.live nL
  replace H := H.up k0
  have hq := R.lt ht
  have dL0 := dL
  have lt1 : Lt h₁ 232 primPos primQual := lt.go (Keep2.all (W := []) k0) (by simp)
  have lu1 : Lt h₁ 379 nmPos nmQual := lu.go (Keep2.all (W := []) k0) (by simp)
  have d232 : D ≠ 232 := lt1.ne_rd H
  have l232 : L ≠ 232 := lt1.ne_ns C.ns
  have d379 : D ≠ 379 := lu1.ne_rd H
  have l379 : L ≠ 379 := lu1.ne_ns C.ns
  have T0 : Ats h₁ [] := Ats.nil
  have rb1 : RbF h₁ f := rb.go (Keep2.all (W := []) k0)
  have hq := R.lt ht
  have hq0 := R.lt h2
  repeat walk1
  refine C_search_all (by assumption) (Cx.st (by assumption)) (by assumption) (by assumption) (by simp) hh (by first | walk_at "dr" | (show A.depth + 1 + 40 + 10 * n < _; omega)) (by omega) (by show A.units + 3 + 80 < cLine; omega) (by walk_at "lt") (by walk_at "lt") hnd nn (by walk_at "rb") hn ht h1 e ke h2 h3 fun a h5 tk5 k5 H5 lt5 lu5 t5 => ?_
  have C5 := Cx.gs (by assumption) k5
  repeat walk1
  try dsimp only
  with_reducible show Q _ _
  exact h _ _ _ (Cx.keep (by assumption) nL) (by assumption) (by walk_at "lt") (by walk_at "lt") t5
theorem C_read_search_no {f N n q : Nat} {d : PyData} {fs : List Env} {Q : Value → Shared → Prop} (G : Gd w g) (S : St g W s.heap) (R : RS w g r D tl nd toks ts) (H : RD w s.heap D tl p nd) (hW : ∀ x ∈ ([D, 232, 379] : List Addr), x ∈ W) (hh : A.handled = none) (hd : A.depth + 41 + 10 * n < recursionLimit) (hp : p < 2 ^ 29) (hu : A.units + 90 < cLine) (lt : Lt s.heap 232 primPos primQual) (lu : Lt s.heap 379 nmPos nmQual) (hnd : nd = .ref N) (nn : NmD w g N) (rb : RbF s.heap f) (hn : n ≤ 20) (h0 : ts[p]? = some (wd (ofString "SEARCH"))) (ha : ts[p + 1]? = some (wd (ofString "ALL"))) (ht : ts[p + 1 + 1]? = some (wd (ofString "T"))) (h1 : ts[p + 1 + 1 + 1]? = some (wd (ofString "WHEN"))) (e : Spec 299 24 w ts n (p + 1 + 1 + 1 + 1) q d) (ke : KSpec w d false 10) (h2 : ts[q]? = some (wd (ofString "CONTINUE"))) (h3 : ts[q + 1]? = some (sg (ofString "."))) (h4 : ∃ t, ts[p + 1 + 1 + 1 + 1]? = some t) (hfr : A.frames = some fs) (ff : FF [D, 232, 379] s.heap fs)
    (h : ∀ e d h' tk, Fly [D, 232, 379] fs 72 (.tuple [.int (((p + 1 + 1 + 1 + 1 : Nat) : Int) + 1), .int 12]) s.heap h' e d .none → Lt h' 232 primPos primQual → Lt h' 379 nmPos nmQual → E (.ref e) { s with heap := h', toks := tk }) : wpAny (MM w) A (call (.ref 461) [.ref r, .ref f]) Q E s := by
  w_top off
  have S1 : St g [D, 232, 379] s.heap := S.less hW
  refine wpAny_call ?_
  refine enter2 (W := [D, 232, 379]) [("reader", .ref r), ("read_body", .ref f)] G S1 ((fn_at G S (f461 w)).trans rfl) (by kernel_rfl) (by walk_at "dq") (BindsTo.of_eq rfl) (locs rfl) ?_ (by decide)
  intro L h₁ tk C nL k0
  have dL : D ≠ L := ne_of_live H.live nL
  replace H := H.up k0
  have hq := R.lt ht
  have dL0 := dL
  have lt1 : Lt h₁ 232 primPos primQual := lt.go (Keep2.all (W := []) k0) (by simp)
  have lu1 : Lt h₁ 379 nmPos nmQual := lu.go (Keep2.all (W := []) k0) (by simp)
  have d232 : D ≠ 232 := lt1.ne_rd H
  have l232 : L ≠ 232 := lt1.ne_ns C.ns
  have d379 : D ≠ 379 := lu1.ne_rd H
  have l379 : L ≠ 379 := lu1.ne_ns C.ns
  have T0 : Ats h₁ [] := Ats.nil
  have rb1 : RbF h₁ f := rb.go (Keep2.all (W := []) k0)
  have hq := R.lt ht
  have hq0 := R.lt h2
  repeat walk1
  refine C_search_all_no (fs := _ :: fs) (by assumption) (Cx.st (by assumption)) (by assumption) (by assumption) (by simp) hh (by first | walk_at "dr" | (show A.depth + 1 + 40 + 10 * n < _; omega)) (by omega) (by show A.units + 3 + 80 < cLine; omega) (by walk_at "lt") (by walk_at "lt") hnd nn (by walk_at "rb") hn ht h1 e ke h2 h3 h4 (Around.frames_deeper hfr) (FF.push ff (by assumption) nL (fun q => nomatch q) rfl) fun e d h5 tk5 F lt5 lu5 => ?_
  refine leave_next hfr ff (by assumption) nL (fun q => nomatch q) rfl F fun h6 F6 q6 => ?_
  exact h e d h6 _ F6 (lt5.quiet q6 (Lt.live (pos := primPos) (qual := primQual) (by walk_at "lt")) (FF.nlt (W := [D, 232, 379]) (FF.push ff (by assumption) nL (fun q => nomatch q) rfl) (by simp))) (lu5.quiet q6 (Lt.live (pos := nmPos) (qual := nmQual) (by walk_at "lt")) (FF.nlt (W := [D, 232, 379]) (FF.push ff (by assumption) nL (fun q => nomatch q) rfl) (by simp)))
section
variable {h0 : Heap} {L : Addr} {m : PySem.Str → Option Value}
structure Ln (g h0 : Heap) (W : List Addr) (L : Addr) (h : Heap) (l : Addr) (vs : List Value) : Prop where
  at_ : ∃ n, h.get? l = some (listOf vs.toArray n)
  fr : h0.get? l = none ∧ g.get? l = none ∧ l ∉ W ∧ l ≠ L
theorem Ln.go {h h' : Heap} {X : List Addr} {l : Addr} {vs : List Value} (k : Keep2 X h h') (x : Ln g h0 W L h l vs) (s : ∀ y ∈ X, y = L ∨ y ∈ W) : Ln g h0 W L h' l vs := by
  obtain ⟨n, e⟩ := x.at_
  exact ⟨⟨n, k.keep _ _ e fun q => (s l q).elim x.fr.2.2.2 x.fr.2.2.1⟩, x.fr⟩
theorem Ln.go2 {h h' : Heap} {l l2 : Addr} {vs : List Value} (k : Keep2 [l2] h h') (x : Ln g h0 W L h l vs) (s : l ≠ l2) : Ln g h0 W L h' l vs := by
  obtain ⟨n, e⟩ := x.at_
  exact ⟨⟨n, k.keep _ _ e fun q => s (List.mem_singleton.mp q)⟩, x.fr⟩
theorem Ln.isL {h : Heap} {l : Addr} {vs : List Value} (x : Ln g h0 W L h l vs) : h.IsList l vs.toArray := by
  obtain ⟨n, e⟩ := x.at_
  exact ⟨_, e, rfl, n, rfl⟩
theorem in1 {a D : Addr} {V : List Addr} (n : D ∈ V) : ∀ y ∈ [D], y = a ∨ y ∈ V := fun y q => .inr (List.mem_singleton.mp q ▸ n)
theorem in1L {a : Addr} {V : List Addr} : ∀ y ∈ [a], y = a ∨ y ∈ V := fun y q => .inl (List.mem_singleton.mp q)
theorem inAll {a : Addr} {V : List Addr} : ∀ y ∈ V, y = a ∨ y ∈ V := fun y q => .inr q
theorem inNil {a : Addr} {V : List Addr} : ∀ y ∈ ([] : List Addr), y = a ∨ y ∈ V := fun y q => nomatch q
theorem list_of_tup {b : Addr} {vs : List Value} {Q : Value → Shared → Prop} (e : s.heap.get? b = some (tupO vs)) (hz : vs.length ≤ 100) (h : ∀ a h', s.heap.get? a = none → Keep2 [] s.heap h' → (∃ n, h'.get? a = some (listOf vs.toArray n)) → Q (.ref a) { s with heap := h' }) :
    wpAny (MM w) A (call (.type "list") [.ref b]) Q E s :=
  call_list_seq b (.inr rfl) e rfl rfl (fun h' c' hk hD => h _ h' none_of_size (Keep2.all hk) ⟨_, hD⟩) (by simp [PySem.sizeLine_eq]; omega)
theorem m_append {l : Addr} {vs : List Value} {pl : Sem Bool} {Q : Value × List Value → Shared → Prop} (_ : Cx g W h0 L m s.heap) (x : Ln g h0 W L s.heap l vs) (h : Q (.builtin "list.append", [.ref l]) s) : wpAny (MM w) A (getMethod (.ref l) "append" pl) Q E s := by
  obtain ⟨_, e⟩ := x.at_
  exact Calls.getMethod_list_append e rfl rfl h
theorem list_app {l : Addr} {vs : List Value} {v : Value} {Q : Value → Shared → Prop} (C : Cx g W h0 L m s.heap) (x : Ln g h0 W L s.heap l vs) (hz : vs.length ≤ 1000) (h : ∀ h', Cx g W h0 L m h' → Keep2 [l] s.heap h' → Ln g h0 W L h' l (vs ++ [v]) → Q .none { s with heap := h' }) :
    wpAny (MM w) A (call (.builtin "list.append") [.ref l, v]) Q E s := by
  refine bc fun hGo => ?_
  obtain ⟨n, e⟩ := x.at_
  refine hGo ?_; clear hGo
  refine append_at e (fun h' sb e' => ?_) (by simp [PySem.sizeLine_eq]; omega)
  have k : Keep2 [l] s.heap h' := keep2_same sb ⟨_, e'⟩ fun o q z => by rw [e] at q; cases q; have z' : Value.type "list" = .type "tuple" := z; simp at z'
  refine h h' (C.goX k fun y q => .inr (List.mem_singleton.mp q ▸ ⟨x.fr.1, x.fr.2.2.2, x.fr.2.1⟩)) k ⟨⟨n + 1, by rw [e']; simp⟩, x.fr⟩
theorem eq_nil {l l2 : Addr} {vs : List Value} {n : Nat} {b : Bool} {Q : Value → Shared → Prop} (_ : Cx g W h0 L m s.heap) (x : Ln g h0 W L s.heap l vs) (e2 : s.heap.get? l2 = some (listOf [].toArray n)) (hu : A.units < cLine) (hb : vs.isEmpty = b) (h : Q (.bool b) s) : wpAny (MM w) A (compareOp .Eq (.ref l) (.ref l2)) Q E s := by
  refine bc fun hGo => ?_
  obtain ⟨n1, e1⟩ := x.at_
  refine hGo ?_; clear hGo
  cases vs with
  | nil => subst hb; exact P.eq_list (e := fun _ => true) e1 e2 rfl (fun j h1 => absurd h1 (Nat.not_lt_zero _)) hu h
  | cons a r => subst hb; exact P.eq_list_lengths e1 e2 (by simp) hu h
theorem Ln.of {h : Heap} {l : Addr} {vs : List Value} {n : Nat} (e : h.get? l = some (listOf vs.toArray n)) (z : h0.get? l = none ∧ g.get? l = none ∧ l ∉ W ∧ l ≠ L) : Ln g h0 W L h l vs := ⟨⟨n, e⟩, z⟩
theorem Ln.ne_new {h : Heap} {l a : Addr} {vs : List Value} (_ : Cx g W h0 L m h) (x : Ln g h0 W L h l vs) (n : h.get? a = none) : l ≠ a := fun q => by obtain ⟨k, e⟩ := x.at_; rw [q, n] at e; cases e
theorem Ln.nin {h : Heap} {l D : Addr} {vs : List Value} (x : Ln g h0 W L h l vs) (n : D ∈ W) : D ∉ [l] := fun q => x.fr.2.2.1 (List.mem_singleton.mp q ▸ n)
theorem hu0 {e : Env} (h : A.units + 3 < cLine) : (A.deeper e).units < cLine := h
end
theorem said76 : True := by
  k_with "m:lnside" => (guard_expr on4 =ₛ on4; first | exact inNil | exact in1L | exact inAll | exact in1 (List.Mem.head _) | fail "lnside")
  trivial
section
variable {h0 : Heap} {L : Addr} {m : PySem.Str → Option Value}
end
theorem said77 : True := by
  k_with "m:ln" => (guard_expr on4 =ₛ on4; first | assumption | exact Ln.go ‹_› (by walk_at "ln") (by walk_at "lnside") | exact Ln.go2 ‹_› (by walk_at "ln") (by first | assumption | exact Ne.symm ‹_›) | fail "ln")
  trivial
section
variable {h0 : Heap} {L : Addr} {m : PySem.Str → Option Value}
end
theorem said78 : True := by
  k_with "m:newList" => (guard_expr on4 =ₛ on4; (walk_plain_pass; (refine new_list ?_; intro aₘ hₘ nₘ kₘ eₘ; have zₘ := Cx.none_of ‹_› nₘ; have Cₘ := Cx.gs ‹_› kₘ; (first | have Hₘ := RD.gs ‹_› kₘ (by walk_at "sm") | skip); have Lₘ := Ln.of eₘ zₘ; (first | have llₘ := Ln.ne_new ‹_› (by walk_at "ln") nₘ | skip); walk_at "more"; try dsimp only)))
  trivial
section
variable {h0 : Heap} {L : Addr} {m : PySem.Str → Option Value}
end
theorem said79 : True := by
  k_with "m:compareOp Eq ref ref" => (guard_expr on4 =ₛ on4; (walk_plain_pass; (first | refine eq_nil (b := true) ‹_› (by walk_at "ln") ‹_› (hu0 (by omega)) (by rfl) ?_ | refine eq_nil (b := false) ‹_› (by walk_at "ln") ‹_› (hu0 (by omega)) (by rfl) ?_)))
  trivial
section
variable {h0 : Heap} {L : Addr} {m : PySem.Str → Option Value}
end
theorem said80 : True := by
  k_with "m:getMethod ref" => (guard_expr on4 =ₛ on4; (walk_plain_pass; (with_reducible show wpAny _ _ (getMethod _ (ofString "append") _) _ _ _); refine m_append ‹_› (by walk_at "ln") ?_))
  trivial
section
variable {h0 : Heap} {L : Addr} {m : PySem.Str → Option Value}
theorem len_ln {l : Addr} {vs : List Value} {Q : Value → Shared → Prop} (_ : Cx g W h0 L m s.heap) (x : Ln g h0 W L s.heap l vs) (hz : vs.length < 1000) (h : Q (.int (vs.length : Int) (s.toks + 1)) { s with toks := s.toks + 1 + 1 }) : wpAny (MM w) A (call (.builtin "len") [.ref l]) Q E s :=
  call_len_list x.isL (by rw [List.size_toArray]; omega) (by rw [List.size_toArray]; exact h)
theorem str_zero {t : Tok} {Q : Value → Shared → Prop} (h : Q (.str (ofString "0") s.toks) { s with toks := s.toks + 1 }) : wpAny (MM w) A (call (.type "str") [.int (((1 : Nat) : Int) - 1) t]) Q E s :=
  PyProof.Rows.str_of_int_fit (a := ((1 : Nat) : Int) - 1) (N := 10) (by decide) (by decide) fun _ => h
theorem add_when {t u : Tok} {Q : Value → Shared → Prop} (h : ∀ t' tk, Q (.str (ofString "when 0") t') { s with toks := tk }) : wpAny (MM w) A (binaryOp .Add (.str (ofString "when ") t) (.str (ofString "0") u)) Q E s :=
  PyProof.Rows.add_str fun t' tk => by
    have e : ofString "when " ++ ofString "0" = ofString "when 0" := by kernel_rfl
    rw [e]; exact h t' tk
end
theorem said81 : True := by
  k_with "m:newTuple" => (guard_expr on4 =ₛ on4; (walk_plain_pass; refine new_tuple ?_; intro aₘ hₘ kₘ eₘ; have Cₘ := Cx.gs ‹_› kₘ; (have Hₘ := RD.gs ‹_› kₘ (by walk_at "sm")); have Tₘ := Ats.go kₘ ‹_›; (first | (have tₘ := At.tup eₘ (by walk_at "ats2"); have Tₘₘ := Ats.add Tₘ tₘ) | skip); (have ltₘ : Lt _ 232 _ _ := Lt.go2 kₘ ‹_› List.not_mem_nil); (have luₘ : Lt _ 379 _ _ := Lt.go2 kₘ ‹_› List.not_mem_nil); try dsimp only))
  trivial
section
variable {h0 : Heap} {L : Addr} {m : PySem.Str → Option Value}
theorem tuple_ln {l : Addr} {vs : List Value} {Q : Value → Shared → Prop} (_ : Cx g W h0 L m s.heap) (x : Ln g h0 W L s.heap l vs) (hz : vs.length < 1000) (h : ∀ a h', Keep2 [] s.heap h' → h'.get? a = some (tupO vs) → Q (.ref a) { s with heap := h' }) : wpAny (MM w) A (call (.type "tuple") [.ref l]) Q E s :=
  tuple_of x.isL (by simp [PySem.sizeLine_eq]; omega) h
end
theorem said82 : True := by
  k_with "m:call type:tuple" => (guard_expr on4 =ₛ on4; (walk_plain_pass; (refine tuple_ln ‹_› (by walk_at "ln") (by simp) ?_; intro aₘ hₘ kₘ eₘ; have Cₘ := Cx.gs ‹_› kₘ; (have Hₘ := RD.gs ‹_› kₘ (by walk_at "sm")); have Tₘ := Ats.go kₘ ‹_›; (have tₘ := At.tup eₘ (by walk_at "ats2"); have Tₘₘ := Ats.add Tₘ tₘ); (have ltₘ : Lt _ 232 _ _ := Lt.go2 kₘ ‹_› List.not_mem_nil); (have luₘ : Lt _ 379 _ _ := Lt.go2 kₘ ‹_› List.not_mem_nil); try dsimp only)))
  trivial
section
variable {h0 : Heap} {L : Addr} {m : PySem.Str → Option Value}
end
theorem said83 : True := by
  k_with "m:call builtin:len" => (guard_expr on4 =ₛ on4; (walk_plain_pass; refine len_ln ‹_› (by walk_at "ln") (by simp) ?_))
  trivial
section
variable {h0 : Heap} {L : Addr} {m : PySem.Str → Option Value}
end
theorem said84 : True := by
  k_with "m:call type:str" => (guard_expr on4 =ₛ on4; (walk_plain_pass; refine str_zero ?_))
  trivial
section
variable {h0 : Heap} {L : Addr} {m : PySem.Str → Option Value}
end
theorem said85 : True := by
  k_with "m:binaryOp Add str str" => (guard_expr on4 =ₛ on4; (walk_plain_pass; (refine add_when ?_; intro _ _)))
  trivial
section
variable {h0 : Heap} {L : Addr} {m : PySem.Str → Option Value}
end
theorem said86 : True := by
  k_with "m:callWith builtin:list.append" => (guard_expr on4 =ₛ on4; refine PyProof.Rows.callWith_method1 ?_)
  trivial
section
variable {h0 : Heap} {L : Addr} {m : PySem.Str → Option Value}
end
theorem said87 : True := by
  k_with "m:callWith builtin:len" => (guard_expr on4 =ₛ on4; refine PyProof.Rows.callWith_method1 ?_)
  trivial
section
variable {h0 : Heap} {L : Addr} {m : PySem.Str → Option Value}
end
theorem said88 : True := by
  k_with "m:callWith type:str" => (guard_expr on4 =ₛ on4; with_unfolding_all refine Pv.callWith_type1 ?_)
  trivial
section
variable {h0 : Heap} {L : Addr} {m : PySem.Str → Option Value}
end
theorem said89 : True := by
  k_with "m:call builtin:list.append" => (guard_expr on4 =ₛ on4; (walk_plain_pass; (refine list_app ‹_› (by walk_at "ln") (by simp) ?_; intro hₘ Cₘ kₘ Lₘ; (have Hₘ := RD.gs ‹_› kₘ (Ln.nin Lₘ (by simp; done))); (have Tₘ := Ats.go kₘ ‹_›); (have ltₘ : Lt _ 232 _ _ := Lt.go2 kₘ ‹_› (Ln.nin Lₘ (by simp))); (have luₘ : Lt _ 379 _ _ := Lt.go2 kₘ ‹_› (Ln.nin Lₘ (by simp))); try dsimp only)))
  trivial
section
variable {h0 : Heap} {L : Addr} {m : PySem.Str → Option Value}
theorem C_search_plain {f N n q : Nat} {d : PyData} {Q : Value → Shared → Prop} (G : Gd w g) (S : St g W s.heap) (R : RS w g r D tl nd toks ts) (H : RD w s.heap D tl p nd) (hW : ∀ x ∈ ([D, 232, 379] : List Addr), x ∈ W) (hh : A.handled = none) (hd : A.depth + 40 + 10 * n < recursionLimit) (hp : p < 2 ^ 29) (hu : A.units + 80 < cLine) (lt : Lt s.heap 232 primPos primQual) (lu : Lt s.heap 379 nmPos nmQual) (hnd : nd = .ref N) (nn : NmD w g N) (rb : RbF s.heap f) (hn : n ≤ 20) (h0 : ts[p]? = some (wd (ofString "SEARCH"))) (ht : ts[p + 1]? = some (wd (ofString "T"))) (h1 : ts[p + 1 + 1]? = some (wd (ofString "WHEN"))) (e : Spec 299 24 w ts n (p + 1 + 1 + 1) q d) (h2 : ts[q]? = some (wd (ofString "CONTINUE"))) (h3 : ts[q + 1]? = some (sg (ofString ".")))
    (h : ∀ a h' tk, Keep2 [D, 232, 379] s.heap h' → RD w h' D tl (q + 1) nd → Lt h' 232 primPos primQual → Lt h' 379 nmPos nmQual → At h' (.ref a) (.tuple [.str (ofString "search"), refD (ofString "T"), .none, .tuple [d], .tuple [.tuple [.str (ofString "when 0"), contD]]]) → Q (.ref a) { s with heap := h', toks := tk }) : wpAny (MM w) A (call (.ref 461) [.ref r, .ref f]) Q E s := by
  w_top off
  have S1 : St g [D, 232, 379] s.heap := S.less hW
  refine enterN (W := [D, 232, 379]) [("reader", .ref r), ("read_body", .ref f)] G S1 ((fn_at G S (f461 w)).trans rfl) (by kernel_rfl) (by walk_at "dq") (BindsTo.of_eq rfl) (locs rfl) ?_ (by rfl)
  intro L h₁ tk C nL k0
  have dL : D ≠ L := ne_of_live H.live nL
  replace H := H.up k0
  have hq := R.lt ht
  have dL0 := dL
  have lt1 : Lt h₁ 232 primPos primQual := lt.go (Keep2.all (W := []) k0) (by simp)
  have lu1 : Lt h₁ 379 nmPos nmQual := lu.go (Keep2.all (W := []) k0) (by simp)
  have d232 : D ≠ 232 := lt1.ne_rd H
  have l232 : L ≠ 232 := lt1.ne_ns C.ns
  have d379 : D ≠ 379 := lu1.ne_rd H
  have l379 : L ≠ 379 := lu1.ne_ns C.ns
  have T0 : Ats h₁ [] := Ats.nil
  have rb1 : RbF h₁ f := rb.go (Keep2.all (W := []) k0)
  have hq := R.lt ht
  have hq0 := R.lt h2
  have F1 : Foll ts (p + 1 + 1) (wd (ofString "WHEN")) := ⟨h1, by kernel_rfl!⟩
  have hT : isNm (ofString "T") := .inr (.inr (.inr (.inl rfl)))
  rw [show ofString "when 0" = ofString "when " ++ ofString "0" from by kernel_rfl] at h
  repeat walk1
  refine list_of_tup (by walk_at "stab") (by simp) fun l1 h3 nl1 k3 el1 => ?_
  have z1 := Cx.none_of (by assumption) nl1
  have C3 := Cx.gs (by assumption) k3
  have H3 := RD.gs (by assumption) k3 List.not_mem_nil
  have T3 := Ats.go k3 (by assumption)
  have L1 : Ln g s.heap [D, 232, 379] L h3 l1 [] := ⟨el1, z1⟩
  try dsimp only
  repeat walk1
  try dsimp only
  with_reducible show Q _ _
  exact h _ _ _ (Cx.keep (by assumption) nL) (by assumption) (by walk_at "lt") (by walk_at "lt") (by walk_at "at2")
end
end
section
variable {w : World} {A : Around} {E : Value → Shared → Prop} {s : Shared} {g : Heap} {W : List Addr} {h0 : Heap} {m : PySem.Str → Option Value}
theorem Keep2.of_off {Z : List Addr} {h h' : Heap} (k : ∀ b o, h.get? b = some o → b ∉ Z → h'.get? b = some o) (z : ∀ b ∈ Z, ∀ o, h.get? b = some o → ¬ Stab o) (l : ∀ b ∈ Z, ∃ o, h'.get? b = some o) : Keep2 Z h h' :=
  ⟨k, fun b o e => by
    by_cases q : b ∈ Z
    · exact l b q
    · exact ⟨o, k b o e q⟩, fun b o y e => k b o e fun q => z b q o e y⟩
theorem ns_same {h h' : Heap} {K : Addr} {m : PySem.Str → Option Value} (hn : h.Ns K m) (sb : Heap.SameBut K h h') (l : ∃ o, h'.get? K = some o) : Keep2 [K] h h' := keep2_same sb l (Ns_not_stab hn)
theorem list_ns {h : Heap} {a : Addr} {vs : List Value} {n : Nat} (e : h.get? a = some (listOf vs.toArray n)) : ∀ o, h.get? a = some o → ¬ Stab o := fun o q z => by
  rw [e] at q; cases q
  have z' : Value.type "list" = .type "tuple" := z
  simp at z'
structure KeepZ (Z : List Addr) (h h' : Heap) : Prop where
  keep : ∀ b o, h.get? b = some o → b ∉ Z → h'.get? b = some o
  stab : ∀ b o, Stab o → h.get? b = some o → h'.get? b = some o
theorem Keep2.z {X Z : List Addr} {h h' : Heap} (k : Keep2 X h h') (s : ∀ x ∈ X, x ∈ Z) : KeepZ Z h h' := ⟨fun b o e n => k.keep b o e fun q => n (s b q), k.stab⟩
theorem At.goZ {h h' : Heap} {Z : List Addr} {v : Value} {d : PyData} (k : KeepZ Z h h') (r : At h v d) : At h' v d := reads_stab k.stab r
theorem comp_run {env : Env} {elt target iter : PySem.Expr} {scope : Scope} {pos : Pos} {cl : List (PySem.Str × Addr)} {I : Addr} {fp wr : List Addr} {n : Nat} {P : Nat → Value → Prop} {Sx : Nat → Heap → Prop} {use : Option (Value → Sem Unit)} {Q : Value → Shared → Prop}
    (J : Addr → Addr → Nat → List Value → Heap → Prop) {hB : Heap} (kB : Keep2 [] hB s.heap) (nB : ∀ a ∈ wr, hB.get? a = none) (ht : ∀ v, letOwnedTupleGo target (.ref I) v = pure ())
    (Wk : Walks PP w A I fp wr n P Sx) (ns : ∀ i h, Sx i h → ∀ a ∈ wr, ∃ o, h.get? a = some o ∧ ¬ Stab o) (C : Cx g W h0 env.locals m s.heap) (nL : h0.get? env.locals = none) (st0 : Sx 0 s.heap) (lf : ∀ a ∈ fp, ∃ o, s.heap.get? a = some o)
    (n0 : ∀ a ∈ wr, h0.get? a = none) (ng : ∀ a ∈ wr, g.get? a = none) (fL : env.locals ∉ fp) (fW : ∀ a ∈ fp, a ∉ W) (hz : n ≤ 1000) (hcell : ∀ y ∈ scope.names, y.2 ≠ .cell) (hkind : scope.kind = .function)
    (J0 : ∀ a K h', s.heap.get? a = none → s.heap.get? K = none → a ≠ K → Keep2 [] s.heap h' → J a K 0 [] h')
    (Jgo : ∀ a K i vs h h', s.heap.get? a = none → s.heap.get? K = none → J a K i vs h → KeepZ (a :: K :: wr) h h' → J a K i vs h')
    (step : ∀ a K i v vs h' tk m', s.heap.get? a = none → s.heap.get? K = none → a ≠ K → i < n → vs.length = i → P i v → Cx g W h0 K m' h' → h0.get? K = none → Keep2 W hB h' → (∃ o, h'.get? a = some o) → Sx (i + 1) h' → J a K i vs h' → ∀ E' : Value → Shared → Prop,
      wpAny (MM w) A (assign target (compEnvC scope cl K env) v) (fun _ s2 => wpAny (MM w) A (eval elt (compEnvC scope cl K env)) (fun x s3 => ∃ h'' tk'' m'', s3 = { s with heap := h'', toks := tk'' } ∧ Cx g W h0 K m'' h'' ∧ Keep2 (K :: W) h' h'' ∧ J a K (i + 1) (vs ++ [x]) h'') E' s2) E' { s with heap := h', toks := tk })
    (fin : ∀ a K vs h' tk m' n', s.heap.get? a = none → s.heap.get? K = none → a ≠ K → h'.Ns K m' → Cx g W h0 env.locals m h' → Keep2 W hB h' → J a K n vs h' → h'.get? a = some (listOf vs.toArray n') → vs.length = n → compPost (MM w) A E use Q (.ref a) K (.ok .next) { s with heap := h', toks := tk }) :
    wpAny (MM w) A (newList []) (fun acc s₃ => wpAny (MM w) A (newFunctionEnv scope env.globals cl [] env.qual none .none (some env)) (fun cenv s₄ =>
      codeAny (MM w) A (.compStart (.ListComp elt [⟨target, iter, [], 0⟩] scope pos) 0 (.ref I) acc { cenv with scope := relabel scope env }) (compPost (MM w) A E use Q acc cenv.locals) s₄) E s₃) E s := by
  have nWr : ∀ a ∈ wr, a ∉ W := fun a q => fW a (Wk.sub a q)
  refine new_list fun a h1 na k1 e1 => ?_
  refine wpAny_newFunctionEnv hcell (by intro y hy; simp at hy) (fun h₂ hns hsb => ?_) hkind
  have nK : h1.get? h1.objs.size = none := none_of_size
  have kK : Keep2 [] h1 h₂ := Keep2.all fun b o e => hsb.extBut b o (fun q => by rw [q, nK] at e; cases e) (Heap.get?_push_of_some _ e)
  generalize hKe : h1.objs.size = K at hns hsb nK ⊢
  have sK : s.heap.get? K = none := none_back k1.live nK
  have aK : a ≠ K := fun q => by rw [q, nK] at e1; cases e1
  refine bc fun hGo => ?_
  obtain ⟨za0, zag, zaW, zaL⟩ := C.none_of na
  obtain ⟨zK0, zKg, zKW, zKL⟩ := C.none_of sK
  refine hGo ?_; clear hGo
  have k12 : Keep2 [] s.heap h₂ := k1.trans kK
  have wl : ∀ b ∈ wr, ∃ o, s.heap.get? b = some o := fun b q => lf b (Wk.sub b q)
  have nfa : a ∉ fp := fun q => by obtain ⟨o, e⟩ := lf a q; rw [na] at e; cases e
  have nfK : K ∉ fp := fun q => by obtain ⟨o, e⟩ := lf K q; rw [sK] at e; cases e
  have st2 : Sx 0 h₂ := Wk.frame _ _ _ st0 fun b q o e => k12.keep b o e List.not_mem_nil
  have C2 : Cx g W h0 env.locals m h₂ := C.gs k12
  have own : ∀ {h' : Heap} {m' : PySem.Str → Option Value}, h'.Ns K m' → Cx g W h0 env.locals m h' → Cx g W h0 K m' h' := fun hn c =>
    ⟨hn, c.st, zKW, zKg, (c.keep nL).more fun x q => .tail _ q⟩
  have loop : ∀ s₃ : Shared, s₃ = { s with heap := h₂, toks := s.toks + ([] : List (PySem.Str × Value)).length } → codeAny (MM w) A (.compLoop (.ListComp elt [⟨target, iter, [], 0⟩] scope pos) 0 (.ref I) (.ref a) (compEnvC scope cl K env)) (compPost (MM w) A E use Q (.ref a) K) s₃ := by
    rintro s₃ rfl
    refine codeAny_compLoop_list (ht := ht) (fun k s' => ∃ i m' h' tk' vs n', k + i = n ∧ s' = { s with heap := h', toks := tk' } ∧ h'.Ns K m' ∧ Cx g W h0 env.locals m h' ∧ Sx i h' ∧ Keep2 W hB h' ∧ J a K i vs h' ∧ h'.get? a = some (listOf vs.toArray n') ∧ vs.length = i)
      ?_ n ⟨0, _, h₂, _, [], 0, by omega, rfl, hns, C2, st2, (kB.trans k12).more (fun _ q => (nomatch q)), J0 a K h₂ na sK aK k12, kK.keep _ _ e1 List.not_mem_nil, rfl⟩
    intro k s' hI
    refine bc fun hGo => ?_
    obtain ⟨i, m', h', tk', vs, n', hi, rfl, hn, C', sx, kk, hJ, ha, hv⟩ := hI
    refine hGo ?_; clear hGo
    have z2 : ∀ {h2 : Heap}, (∀ b o, b ∉ wr → h'.get? b = some o → h2.get? b = some o) → KeepZ (a :: K :: wr) h' h2 := fun kb => ⟨fun b o e q => kb b o (fun z => q (.tail _ (.tail _ z))) e, fun b o y e => kb b o (fun q => by obtain ⟨o', e', z⟩ := ns _ _ sx b q; rw [e] at e'; cases e'; exact z y) e⟩
    have kk2 : ∀ {h2 : Heap}, (∀ b o, b ∉ wr → h'.get? b = some o → h2.get? b = some o) → Keep2 W hB h2 := fun {h2} kb => by
      have nb : ∀ b o, hB.get? b = some o → b ∉ wr := fun b o e q => by rw [nB b q] at e; cases e
      exact ⟨fun b o e q => kb b o (nb b o e) (kk.keep b o e q), fun b o e => let ⟨o', e'⟩ := kk.live b o e; ⟨o', kb b o' (nb b o e) e'⟩, fun b o y e => kb b o (nb b o e) (kk.stab b o y e)⟩
    have aw : a ∉ wr := fun q => nfa (Wk.sub _ q)
    have Kw : K ∉ wr := fun q => nfK (Wk.sub _ q)
    have Lw : env.locals ∉ wr := fun q => fL (Wk.sub _ q)
    have over : ∀ {h2 : Heap}, (∀ b o, b ∉ wr → h'.get? b = some o → h2.get? b = some o) → Cx g W h0 env.locals m h2 ∧ h2.Ns K m' ∧ h2.get? a = some (listOf vs.toArray n') := fun kb => by
      refine ⟨C'.overs (fun b o e q => kb b o q e) n0 Lw ng nWr, ?_, kb _ _ aw ha⟩
      obtain ⟨o, es, ep, e, r⟩ := hn
      exact ⟨o, es, ep, kb _ _ Kw e, r⟩
    cases k with
    | zero =>
      have e : i = n := by omega
      subst e
      refine Wk.done _ _ _ sx fun h2 tk2 kb => ?_
      refine bc fun hGo => ?_
      obtain ⟨C3, hn3, ha3⟩ := over kb
      refine hGo ?_; clear hGo
      exact fin a K vs h2 tk2 m' n' na sK aK hn3 C3 (kk2 kb) (Jgo _ _ _ _ _ _ na sK hJ (z2 kb)) ha3 hv
    | succ k =>
      refine Wk.item i _ _ _ (by omega) sx fun v h2 tk2 hP sx2 kb => ?_
      refine bc fun hGo => ?_
      obtain ⟨C3, hn3, ha3⟩ := over kb
      refine hGo ?_; clear hGo
      have J2 := Jgo _ _ _ _ _ _ na sK hJ (z2 kb)
      refine wpAny_mono (step a K i v vs h2 tk2 m' na sK aK (by omega) hv hP (own hn3 C3) zK0 (kk2 kb) ⟨_, ha3⟩ sx2 J2 _) (fun _ s2 z => wpAny_mono z (fun x s3 y => ?_) fun _ _ y => y) fun _ _ y => y
      refine bc fun hGo => ?_
      obtain ⟨h4, tk4, m4, rfl, C4, k4, J4⟩ := y
      refine hGo ?_; clear hGo
      have ka : a ∉ K :: W := fun q => (List.mem_cons.mp q).elim aK zaW
      have e4 := k4.keep _ _ ha3 ka
      refine append_at (s := { s with heap := h4, toks := tk4 }) e4 (fun h5 sb e5 => ?_) (by rw [PySem.sizeLine_eq, List.size_toArray]; omega)
      have k5 : Keep2 [a] h4 h5 := keep2_same sb ⟨_, e5⟩ (list_ns e4)
      have C5 : Cx g W h0 env.locals m h5 := (C3.goX k4 fun x q => (List.mem_cons.mp q).elim (fun y => .inr (y ▸ ⟨zK0, zKL, zKg⟩)) .inl).goX k5 fun x q => .inr (List.mem_singleton.mp q ▸ ⟨za0, zaL, zag⟩)
      refine ⟨k, by omega, i + 1, m4, h5, tk4, vs ++ [x], n' + 1, by omega, rfl, ?_, C5, ?_, ?_, Jgo _ _ _ _ _ _ na sK J4 (k5.z fun x q => by rw [List.mem_singleton.mp q]; exact .head _), by rw [e5]; simp, by simp [hv]⟩
      · obtain ⟨o, es, ep, e, r⟩ := C4.ns
        exact ⟨o, es, ep, k5.keep _ _ e fun q => aK (List.mem_singleton.mp q).symm, r⟩
      · refine Wk.frame _ _ _ sx2 fun b q o e => k5.keep _ _ (k4.keep _ _ e fun z => ?_) fun z => nfa (List.mem_singleton.mp z ▸ q)
        rcases List.mem_cons.mp z with z | z
        · exact nfK (z ▸ q)
        · exact fW b q z
      · have kh : Keep2 (a :: K :: W) hB h5 := ((kk2 kb).more fun x q => .tail _ (.tail _ q)).trans ((k4.more fun x q => .tail _ q).trans (k5.more fun x q => by rw [List.mem_singleton.mp q]; exact .head _))
        have na' := none_back kB.live na
        have nK' := none_back kB.live sK
        exact ⟨fun b o e q => kh.keep b o e fun z => (List.mem_cons.mp z).elim (fun y => by rw [y, na'] at e; cases e) fun z => (List.mem_cons.mp z).elim (fun y => by rw [y, nK'] at e; cases e) q, kh.live, kh.stab⟩
  exact codeAny_compStart_list (loop _ rfl) (Wk.self 0 _ _ _ st2 (loop _ rfl))
structure CompOK (w : World) (A : Around) (g : Heap) (W : List Addr) (h0 : Heap) (env : Env) (m : PySem.Str → Option Value) (elt target : PySem.Expr) (scope : Scope) (cl : List (PySem.Str × Addr)) (s : Shared) (n : Nat) (P : Nat → Value → Prop)
    (J : Addr → Addr → Addr → Nat → List Value → Heap → Prop) : Prop where
  J0 : ∀ I a K h', s.heap.get? I = none → s.heap.get? a = none → s.heap.get? K = none → Keep2 [] s.heap h' → J I a K 0 [] h'
  Jgo : ∀ I a K i vs h h', J I a K i vs h → KeepZ [a, K, I] h h' → J I a K i vs h'
  step : ∀ I a K i v vs h' tk m', s.heap.get? I = none → s.heap.get? a = none → s.heap.get? K = none → a ≠ K → i < n → vs.length = i → P i v → Cx g W h0 K m' h' → h0.get? K = none → Keep2 W s.heap h' → (∃ o, h'.get? a = some o) → (∃ o, h'.get? I = some o) → J I a K i vs h' → ∀ E' : Value → Shared → Prop,
      wpAny (MM w) A (assign target (compEnvC scope cl K env) v) (fun _ s2 => wpAny (MM w) A (eval elt (compEnvC scope cl K env)) (fun x s3 => Wrap (∃ h'' tk'' m'', s3 = { s with heap := h'', toks := tk'' } ∧ Cx g W h0 K m'' h'' ∧ Keep2 (K :: W) h' h'' ∧ J I a K (i + 1) (vs ++ [x]) h'')) E' s2) E' { s with heap := h', toks := tk }
theorem Keep2.over {X F : List Addr} {hB h h' : Heap} (k : Keep2 X hB h) (nF : ∀ a ∈ F, hB.get? a = none) (kb : ∀ b o, h.get? b = some o → b ∉ F → h'.get? b = some o) : Keep2 X hB h' :=
  have nb : ∀ b o, hB.get? b = some o → b ∉ F := fun b o e q => by rw [nF b q] at e; cases e
  ⟨fun b o e q => kb b o (k.keep b o e q) (nb b o e), fun b o e => let ⟨o', e'⟩ := k.live b o e; ⟨o', kb b o' e' (nb b o e)⟩, fun b o y e => kb b o (k.stab b o y e) (nb b o e)⟩
theorem comp_overG {use : Option (Value → Sem Unit)} {env : Env} {elt target iter : PySem.Expr} {scope : Scope} {pos : Pos} {cl : List (PySem.Str × Addr)} {l : Addr} {vs0 : List Value} {n : Nat} {Q : Value → Shared → Prop} (J : Addr → Addr → Addr → Nat → List Value → Heap → Prop)
    (C : Cx g W h0 env.locals m s.heap) (nL : h0.get? env.locals = none) (hl : s.heap.IsList l vs0.toArray ∨ s.heap.IsTuple l vs0.toArray) (lW : l ∉ W) (hn : vs0.length = n) (hA : A.handled = none) (hz : n ≤ 1000) (hcell : ∀ y ∈ scope.names, y.2 ≠ .cell) (hkind : scope.kind = .function)
    (ok : CompOK w A g W h0 env m elt target scope cl s n (fun i v => vs0[i]? = some v) J)
    (fin : ∀ I a K vs h' tk m' n', s.heap.get? I = none → s.heap.get? a = none → s.heap.get? K = none → a ≠ K → h'.Ns K m' → Cx g W h0 env.locals m h' → Keep2 W s.heap h' → J I a K n vs h' → h'.get? a = some (listOf vs.toArray n') → vs.length = n → compPost (MM w) A E use Q (.ref a) K (.ok .next) { s with heap := h', toks := tk })
    (ht : ∀ I v, letOwnedTupleGo target (.ref I) v = pure () := by intro _ _; rfl) :
    wpAny (MM w) A (pyIter (.ref l)) (fun it s₂ => wpAny (MM w) A (newList []) (fun acc s₃ => wpAny (MM w) A (newFunctionEnv scope env.globals cl [] env.qual none .none (some env)) (fun cenv s₄ =>
      codeAny (MM w) A (.compStart (.ListComp elt [⟨target, iter, [], 0⟩] scope pos) 0 it acc { cenv with scope := relabel scope env }) (compPost (MM w) A E use Q acc cenv.locals) s₄) E s₃) E s₂) E s := by
  have nI := none_of_size (h := s.heap)
  refine bc fun hGo => ?_
  obtain ⟨z0, zg, zW, zL⟩ := C.none_of nI
  refine hGo ?_; clear hGo
  have lI : l ≠ s.heap.objs.size := fun q => by
    rcases hl with ⟨o, e, _⟩ | ⟨o, e, _⟩ <;> rw [q, nI] at e <;> cases e
  have lL : env.locals ≠ l := fun q => by
    obtain ⟨o', _, _, e', d', _⟩ := C.ns
    rcases hl with ⟨o, e, _, _, d⟩ | ⟨o, e, _, _, d⟩ <;> rw [← q, e'] at e <;> cases e <;> rw [d] at d' <;> cases d'
  have ll : ∃ o, s.heap.get? l = some o := by rcases hl with ⟨o, e, _⟩ | ⟨o, e, _⟩ <;> exact ⟨o, e⟩
  have main : ∀ (x : Obj) (Sx : Nat → Heap → Prop), Walks PP w A s.heap.objs.size [s.heap.objs.size, l] [s.heap.objs.size] n (fun i v => vs0[i]? = some v) Sx → (∀ i h, Sx i h → ∀ a ∈ [s.heap.objs.size], ∃ o, h.get? a = some o ∧ ¬ Stab o) → x.isFreed = false → Sx 0 (s.heap.push x) →
      wpAny (MM w) A (newList []) (fun acc s₃ => wpAny (MM w) A (newFunctionEnv scope env.globals cl [] env.qual none .none (some env)) (fun cenv s₄ =>
      codeAny (MM w) A (.compStart (.ListComp elt [⟨target, iter, [], 0⟩] scope pos) 0 (.ref s.heap.objs.size) acc { cenv with scope := relabel scope env }) (compPost (MM w) A E use Q acc cenv.locals) s₄) E s₃) E { s with heap := s.heap.push x } := by
    intro x Sx Wk ns xf st
    have kp : Keep2 [] s.heap (s.heap.push x) := Keep2.push _
    have live : ∀ {i : Nat} {h : Heap}, Sx i h → ∃ o, h.get? s.heap.objs.size = some o := fun {i h} z => let ⟨o, e, _⟩ := ns i h z _ (.head _); ⟨o, e⟩
    have n0 : ∀ {b : Addr}, (s.heap.push x).get? b = none → s.heap.get? b = none := fun e => none_back kp.live e
    refine comp_run (s := { s with heap := s.heap.push x }) (I := s.heap.objs.size) (J s.heap.objs.size) kp (by simpa using nI) (fun v => ht _ v) Wk ns (C.gs kp) nL st (fun a q => ?_) (by simpa using z0) (by simpa using zg) (fun q => ?_) (fun a q => ?_) hz hcell hkind ?_ ?_ ?_ ?_
    · rcases List.mem_cons.mp q with q | q
      · rw [q]; exact ⟨_, Heap.get?_push_size _ xf⟩
      · rw [List.mem_singleton.mp q]; obtain ⟨o, e⟩ := ll; exact ⟨o, Heap.get?_push_of_some _ e⟩
    · rcases List.mem_cons.mp q with q | q
      · exact zL q.symm
      · exact lL (List.mem_singleton.mp q)
    · rcases List.mem_cons.mp q with q | q
      · exact q ▸ zW
      · exact List.mem_singleton.mp q ▸ lW
    · intro a K h' na nK aK k
      exact ok.J0 _ a K h' nI (n0 na) (n0 nK) (kp.trans k)
    · intro a K i vs h h' na nK hJ k
      exact ok.Jgo _ a K i vs h h' hJ k
    · intro a K i v vs h' tk m' na nK aK hi hv hP c zK kk la sx hJ E'
      exact wpAny_mono (ok.step _ a K i v vs h' tk m' nI (n0 na) (n0 nK) aK hi hv hP c zK kk la (live sx) hJ E') (fun _ s2 z => wpAny_mono z (fun _ _ y => y.out) fun _ _ y => y) fun _ _ y => y
    · intro a K vs h' tk m' n' na nK aK hn' c kk hJ ha hv
      exact fin _ a K vs h' tk m' n' nI (n0 na) (n0 nK) aK hn' c kk hJ ha hv
  rcases hl with hl | hl
  · refine wpAny_pyIter_list hl ?_
    have Wk := Walks.list (prog := PP) (w := w) hA s.heap.objs.size l lI vs0.toArray
    rw [show vs0.toArray.size = n from by rw [List.size_toArray]; exact hn] at Wk
    refine main { cls := .type "list_iterator", data := .fields #[.ref l, .int 0 0] } _ ⟨Wk.sub, Wk.frame, fun i s Q E a b c => Wk.item i s Q E a b fun v h' tk d => c v h' tk (by simpa using d), Wk.done, Wk.self⟩ (fun i h sx a q => ?_) rfl ⟨⟨_, Heap.get?_push_size _ rfl, rfl, rfl⟩, hl.push _⟩
    rw [List.mem_singleton.mp q]
    refine bc fun hGo => ?_
    obtain ⟨o, e, c, d⟩ := sx.1
    refine hGo ?_; clear hGo
    exact ⟨o, e, fun n => by unfold Stab at n; rw [d] at n; simp at n⟩
  · refine wpAny_pyIter_tuple hl ?_
    have Wk := Walks.tuple (prog := PP) (w := w) hA s.heap.objs.size l lI vs0.toArray
    rw [show vs0.toArray.size = n from by rw [List.size_toArray]; exact hn] at Wk
    refine main { cls := .type "tuple_iterator", data := .fields #[.ref l, .int 0 0] } _ ⟨Wk.sub, Wk.frame, fun i s Q E a b c => Wk.item i s Q E a b fun v h' tk d => c v h' tk (by simpa using d), Wk.done, Wk.self⟩ (fun i h sx a q => ?_) rfl ⟨⟨_, Heap.get?_push_size _ rfl, rfl, rfl⟩, hl.push _⟩
    rw [List.mem_singleton.mp q]
    refine bc fun hGo => ?_
    obtain ⟨o, e, c, d⟩ := sx.1
    refine hGo ?_; clear hGo
    exact ⟨o, e, fun n => by unfold Stab at n; rw [d] at n; simp at n⟩
theorem comp_letgo {J : Addr → Addr → Addr → Nat → List Value → Heap → Prop} {L I a K : Addr} {n n' : Nat} {vs : List Value} {hB h' h'' : Heap} {mm m' : PySem.Str → Option Value} (Jgo : ∀ I a K i vs h h', J I a K i vs h → KeepZ [a, K, I] h h' → J I a K i vs h') (nK : hB.get? K = none) (z : h0.get? K = none ∧ g.get? K = none ∧ K ∉ W ∧ K ≠ L) (aK : a ≠ K) (hn' : h'.Ns K m') (c : Cx g W h0 L mm h') (kk : Keep2 W hB h') (hJ : J I a K n vs h') (ha : h'.get? a = some (listOf vs.toArray n')) (sb : Heap.SameBut K h' h'') :
    Cx g W h0 L mm h'' ∧ Keep2 W hB h'' ∧ J I a K n vs h'' ∧ h''.get? a = some (listOf vs.toArray n') := by
  obtain ⟨zK0, zKg, zKW, zKL⟩ := z
  have kb : ∀ b o, h'.get? b = some o → b ∉ [K] → h''.get? b = some o := fun b o e q => (sb.2 b fun z => q (z ▸ .head _)).trans e
  exact ⟨c.overs kb (by simpa using zK0) (by simpa using zKL.symm) (by simpa using zKg) (by simpa using zKW), kk.over (F := [K]) (by simpa using nK) kb, Jgo _ _ _ _ _ _ _ hJ ⟨fun b o e q => kb b o e fun z => q (.tail _ (List.mem_singleton.mp z ▸ .head _)), fun b o y e => kb b o e fun z => Ns_not_stab hn' o (List.mem_singleton.mp z ▸ e) y⟩, kb _ _ ha fun z => aK (List.mem_singleton.mp z)⟩
theorem comp_over {env : Env} {elt target iter : PySem.Expr} {scope : Scope} {pos : Pos} {cl : List (PySem.Str × Addr)} {l : Addr} {vs0 : List Value} {n : Nat} {Q : Value → Shared → Prop} (J : Addr → Addr → Addr → Nat → List Value → Heap → Prop)
    (C : Cx g W h0 env.locals m s.heap) (nL : h0.get? env.locals = none) (hl : s.heap.IsList l vs0.toArray ∨ s.heap.IsTuple l vs0.toArray) (lW : l ∉ W) (hn : vs0.length = n) (hA : A.handled = none) (hz : n ≤ 1000) (hcell : ∀ y ∈ scope.names, y.2 ≠ .cell) (hkind : scope.kind = .function)
    (ok : CompOK w A g W h0 env m elt target scope cl s n (fun i v => vs0[i]? = some v) J)
    (fin : ∀ I a K vs h' tk n', s.heap.get? I = none → s.heap.get? a = none → s.heap.get? K = none → Cx g W h0 env.locals m h' → Keep2 W s.heap h' → J I a K n vs h' → h'.get? a = some (listOf vs.toArray n') → vs.length = n → Q (.ref a) { s with heap := h', toks := tk })
    (ht : ∀ I v, letOwnedTupleGo target (.ref I) v = pure () := by intro _ _; rfl) :
    wpAny (MM w) A (pyIter (.ref l)) (fun it s₂ => wpAny (MM w) A (newList []) (fun acc s₃ => wpAny (MM w) A (newFunctionEnv scope env.globals cl [] env.qual none .none (some env)) (fun cenv s₄ =>
      codeAny (MM w) A (.compStart (.ListComp elt [⟨target, iter, [], 0⟩] scope pos) 0 it acc { cenv with scope := relabel scope env }) (compPost (MM w) A E none Q acc cenv.locals) s₄) E s₃) E s₂) E s :=
  comp_overG J C nL hl lW hn hA hz hcell hkind ok (fun I a K vs h' tk m' n' nI na nK aK hn' c kk hJ ha hv => ⟨m', hn', fun h'' sb =>
    let ⟨c2, k2, J2, a2⟩ := comp_letgo ok.Jgo nK (C.none_of nK) aK hn' c kk hJ ha sb; fin I a K vs h'' tk n' nI na nK c2 k2 J2 a2 hv⟩) ht
theorem comp_over_as {y : PySem.Str} {py : Pos} {env : Env} {elt target iter : PySem.Expr} {scope : Scope} {pos : Pos} {cl : List (PySem.Str × Addr)} {l : Addr} {vs0 : List Value} {n : Nat} {Q : Value → Shared → Prop} (hy : env.kindOf y = some .local) (hkf : env.scope.kind = .function) (J : Addr → Addr → Addr → Nat → List Value → Heap → Prop)
    (C : Cx g W h0 env.locals m s.heap) (nL : h0.get? env.locals = none) (hl : s.heap.IsList l vs0.toArray ∨ s.heap.IsTuple l vs0.toArray) (lW : l ∉ W) (hn : vs0.length = n) (hA : A.handled = none) (hz : n ≤ 1000) (hcell : ∀ y ∈ scope.names, y.2 ≠ .cell) (hkind : scope.kind = .function)
    (ok : CompOK w A g W h0 env m elt target scope cl s n (fun i v => vs0[i]? = some v) J)
    (fin : ∀ I a K vs h' tk n', s.heap.get? I = none → s.heap.get? a = none → s.heap.get? K = none → Cx g W h0 env.locals (fun z => if z = y then some (.ref a) else m z) h' → Keep2 (env.locals :: W) s.heap h' → (∃ h2, Keep2 W s.heap h2 ∧ J I a K n vs h2 ∧ KeepZ [K, env.locals] h2 h') → h'.get? a = some (listOf vs.toArray n') → vs.length = n → Q .none { s with heap := h', toks := tk })
    (ht : ∀ I v, letOwnedTupleGo target (.ref I) v = pure () := by intro _ _; rfl) :
    wpAny (MM w) A (pyIter (.ref l)) (fun it s₂ => wpAny (MM w) A (newList []) (fun acc s₃ => wpAny (MM w) A (newFunctionEnv scope env.globals cl [] env.qual none .none (some env)) (fun cenv s₄ =>
      codeAny (MM w) A (.compStart (.ListComp elt [⟨target, iter, [], 0⟩] scope pos) 0 it acc { cenv with scope := relabel scope env }) (compPost (MM w) A E (some (assign (.Name y py) env)) Q acc cenv.locals) s₄) E s₃) E s₂) E s := by
  refine comp_overG J C nL hl lW hn hA hz hcell hkind ok (fun I a K vs h' tk m' n' nI na nK aK hn' c kk hJ ha hv => ?_) ht
  show wpAny (MM w) A (assign (.Name y py) env (.ref a)) _ _ _
  have aL : a ≠ env.locals := (C.none_of na).2.2.2
  refine bc fun hGo => ?_
  obtain ⟨zK0, zKg, zKW, zKL⟩ := C.none_of nK
  refine hGo ?_; clear hGo
  refine wpAny_assign_Name (store (s := { s with heap := h', toks := tk }) c (fun h2 C2 k2 => ?_) hkf hy)
  refine ⟨m', ?_, fun h'' sb => ?_⟩
  · obtain ⟨o, es, ep, e, r⟩ := hn'
    exact ⟨o, es, ep, k2.keep _ _ e fun q => zKL (List.mem_singleton.mp q), r⟩
  · have kb : ∀ b o, h2.get? b = some o → b ∉ [K] → h''.get? b = some o := fun b o e q => (sb.2 b fun z => q (z ▸ .head _)).trans e
    refine fin I a K vs h'' _ n' nI na nK (C2.overs kb (by simpa using zK0) (by simpa using zKL.symm) (by simpa using zKg) (by simpa using zKW)) (((kk.more fun x q => .tail _ q).trans (k2.more fun x q => by rw [List.mem_singleton.mp q]; exact .head _)).over (F := [K]) (by simpa using nK) kb) ⟨h', kk, hJ, fun b o e q => kb b o (k2.keep b o e fun z => q (.tail _ z)) fun z => q (List.mem_singleton.mp z ▸ .head _), fun b o y e => kb b o (k2.stab b o y e) fun z => ?_⟩ (kb _ _ (k2.keep _ _ ha fun z => aL (List.mem_singleton.mp z)) fun z => aK (List.mem_singleton.mp z)) hv
    rw [List.mem_singleton.mp z] at e
    exact Ns_not_stab hn' o e y
theorem listcomp_eval {env : Env} {elt target iter : PySem.Expr} {scope : Scope} {pos : Pos} (cl : List (PySem.Str × Addr)) {Q : Value → Shared → Prop} (hclos : closureFor scope env = pure cl) (hkind : scope.kind = .function) (hnames : ∀ x ∈ scope.names, x.2 = .local → scope.names.lookup x.1 = some .local)
    (h : wpAny (MM w) A (eval iter env) (fun x s₁ => wpAny (MM w) A (pyIter x) (fun it s₂ => wpAny (MM w) A (newList []) (fun acc s₃ => wpAny (MM w) A (newFunctionEnv scope env.globals cl [] env.qual none .none (some env)) (fun cenv s₄ =>
      codeAny (MM w) A (.compStart (.ListComp elt [⟨target, iter, [], 0⟩] scope pos) 0 it acc { cenv with scope := relabel scope env }) (compPost (MM w) A E none Q acc cenv.locals) s₄) E s₃) E s₂) E s₁) E s)
    (hs : ∀ x, foldedSetIterable iter env x = pure x := by intro _; rfl) : wpAny (MM w) A (eval (.ListComp elt [⟨target, iter, [], 0⟩] scope pos) env) Q E s := by
  rw [eval_ListComp]
  exact wpAny_comprehension_free (use := none) rfl hs hclos hkind hnames h
theorem listcomp_assign {env : Env} {y : PySem.Str} {py spos : Pos} {elt target iter : PySem.Expr} {scope : Scope} {pos : Pos} (cl : List (PySem.Str × Addr)) {Q : Flow → Shared → Prop} (hsw : swapsWith (.ListComp elt [⟨target, iter, [], 0⟩] scope pos) (some (.Name y py)) spos.line env = pure true) (hclos : closureFor scope env = pure cl) (hkind : scope.kind = .function) (hnames : ∀ x ∈ scope.names, x.2 = .local → scope.names.lookup x.1 = some .local)
    (h : wpAny (MM w) A (eval iter env) (fun x s₁ => wpAny (MM w) A (pyIter x) (fun it s₂ => wpAny (MM w) A (newList []) (fun acc s₃ => wpAny (MM w) A (newFunctionEnv scope env.globals cl [] env.qual none .none (some env)) (fun cenv s₄ =>
      codeAny (MM w) A (.compStart (.ListComp elt [⟨target, iter, [], 0⟩] scope pos) 0 it acc { cenv with scope := relabel scope env }) (compPost (MM w) A E (some (assign (.Name y py) env)) (fun _ s' => Q .next s') acc cenv.locals) s₄) E s₃) E s₂) E s₁) E s)
    (hs : ∀ x, foldedSetIterable iter env x = pure x := by intro _; rfl) : wpAny (MM w) A (exec (.Assign [.Name y py] (.ListComp elt [⟨target, iter, [], 0⟩] scope pos) spos) env) Q E s := by
  rw [exec_Assign_Name_used _ _ _ _ hsw]
  refine wpAny_bind (wpAny_standAt (wpAny_bind ?_))
  show wpAny _ A (do let _ ← comprehension (.ListComp elt [⟨target, iter, [], 0⟩] scope pos) scope env _ (newList []) false (eval iter env) (some (assign (.Name y py) env))) _ _ s
  exact wpAny_bind (wpAny_mono (wpAny_comprehension_free (use := some (assign (.Name y py) env)) (Q := fun _ s' => Q .next s') rfl hs hclos hkind hnames h) (fun _ s' hq => wpAny_pure (wpAny_pure hq)) fun _ _ e => e)
end
theorem said90 : True := by
  k_with "m:eval ListComp" => with_unfolding_all refine listcomp_eval [] (by rfl) (by rfl) (by decide) ?_
  trivial
def Items (h : Heap) (vs : List Value) (ts : List Tx) : Prop := vs.length = ts.length ∧ ∀ (i : Nat) (v : Value) (t : Tx), vs[i]? = some v → ts[i]? = some t → At h v (.tuple [.str (Prod.fst t), .str (Prod.snd t)])
theorem Items.nil {h : Heap} : Items h [] [] := ⟨rfl, fun i v t e => by simp at e⟩
theorem Items.snoc {h : Heap} {vs : List Value} {ts : List Tx} {v : Value} {t : Tx} (x : Items h vs ts) (a : At h v (.tuple [.str t.1, .str t.2])) : Items h (vs ++ [v]) (ts ++ [t]) := by
  refine ⟨by simp [x.1], fun i v' t' e1 e2 => ?_⟩
  by_cases c : i < vs.length
  · rw [List.getElem?_append_left c] at e1
    rw [List.getElem?_append_left (x.1 ▸ c)] at e2
    exact x.2 i v' t' e1 e2
  · have e0 : i = vs.length := by
      have := (List.getElem?_eq_some_iff.mp e1).1
      simp at this; omega
    subst e0
    rw [List.getElem?_append_right (Nat.le_refl _)] at e1
    rw [x.1, List.getElem?_append_right (Nat.le_refl _)] at e2
    simp at e1 e2
    subst e1 e2
    exact a
theorem Items.goZ {h h' : Heap} {Z : List Addr} {vs : List Value} {ts : List Tx} (k : KeepZ Z h h') (x : Items h vs ts) : Items h' vs ts := ⟨x.1, fun i v t a b => (x.2 i v t a b).goZ k⟩
theorem Items.go {h h' : Heap} {Z : List Addr} {vs : List Value} {ts : List Tx} (k : Keep2 Z h h') (x : Items h vs ts) : Items h' vs ts := x.goZ (k.z fun _ q => q)
theorem Items.app {h : Heap} {vs vs2 : List Value} {ts ts2 : List Tx} (x : Items h vs ts) (y : Items h vs2 ts2) : Items h (vs ++ vs2) (ts ++ ts2) := by
  refine ⟨by simp [x.1, y.1], fun i v t e1 e2 => ?_⟩
  by_cases c : i < vs.length
  · rw [List.getElem?_append_left c] at e1
    rw [List.getElem?_append_left (x.1 ▸ c)] at e2
    exact x.2 i v t e1 e2
  · rw [List.getElem?_append_right (by omega)] at e1
    rw [List.getElem?_append_right (by rw [← x.1]; omega), ← x.1] at e2
    exact y.2 _ v t e1 e2
def TokL (h : Heap) (l : Addr) (ts : List Tx) : Prop := ∃ vs n, h.get? l = some (listOf vs.toArray n) ∧ Items h vs ts
theorem C_words {x : PySem.Str} {t : Tok} {ws : List PySem.Str} {Q : Value → Shared → Prop} (G : Gd w g) (S : St g W s.heap) (hh : A.handled = none) (hd : A.depth + 4 < recursionLimit) (hx : Txt.split x (ofString " ") = ws) (hl : x.length < 1000) (hn : (x == ofString "") = false) (hz : ws.length < 100)
    (h : ∀ a h' tk, s.heap.get? a = none → Keep2 [] s.heap h' → TokL h' a (ws.map wd) → Q (.ref a) { s with heap := h', toks := tk }) : wpAny (MM w) A (call (.ref 700) [.str x t]) Q E s := by
  w_top off
  have S1 : St g [] s.heap := S.none
  refine enterN (W := []) [("text", .str x t)] G S1 ((fn_at G S (f700 w)).trans rfl) (by kernel_rfl) (by walk_at "dq") (BindsTo.of_eq rfl) (locs rfl) ?_ (by rfl)
  intro L h₁ tk C nL k0
  repeat walk1
  rotate_left
  · exfalso
    rename_i e
    simp [bne, hn] at e
  refine split_list (by decide) hl fun l xs h2 tk2 e k i => ?_
  have C2 := C.gs k
  try dsimp only
  have hws : xs.map (·.1) = ws := e.trans hx
  have hlen : xs.length = ws.length := by rw [← hws, List.length_map]
  refine comp_over (n := ws.length) (fun I a K i vs h => Items h vs ((ws.take i).map wd)) C2 nL (.inl i) (by simp) (by simp [strValues, hlen]) hh (by omega) (by decide) (by rfl) ⟨?_, ?_, ?_⟩ ?_
  · intro _ _ _ _ _ _ _ _
    exact Items.nil
  · intro _ _ _ _ _ _ _ J k
    exact J.goZ k
  · intro I a K i v vs h' tk3 m' nI na nK aK hi hv hP Cc zK kk la lI hJ E'
    obtain ⟨t1, hv1⟩ : ∃ t1, v = .str ws[i] t1 := by
      have hx1 : xs[i]? = some (xs[i]'(by omega)) := List.getElem?_eq_getElem (by omega)
      simp only [strValues, List.getElem?_map, hx1, Option.map_some, Option.some.injEq] at hP
      refine ⟨xs[i].2, ?_⟩
      rw [← hP]
      congr 1
      subst hws
      simp
    subst hv1
    refine wpAny_assign_Name (store (s := ⟨h', s.gens, s.drawn, tk3, s.os⟩) (env := compEnvC _ [] K _) Cc (fun h3 C3 k3 => ?_) (by rfl) (by kernel_rfl))
    try dsimp only
    repeat walk1
    try dsimp only
    refine ⟨⟨_, _, _, rfl, by assumption, k3.trans (Keep2.more (W := []) (by assumption) fun _ q => (nomatch q)), ?_⟩⟩
    rw [List.take_succ_eq_append_getElem (by omega), List.map_append]
    exact (hJ.go (k3.trans (Keep2.more (W := []) (by assumption) fun _ q => (nomatch q)))).snoc (by assumption)
  · intro I a K vs h' tk3 n' nI na nK Cc kk hJ ha hv
    repeat walk1
    try dsimp only
    refine h a _ _ (none_back C2.k.live na) (Cc.keep nL) ⟨vs, n', ha, ?_⟩
    rw [List.take_length] at hJ
    exact hJ
theorem TokL.go {h h' : Heap} {X : List Addr} {l : Addr} {ts : List Tx} (k : Keep2 X h h') (x : TokL h l ts) (n : l ∉ X) : TokL h' l ts := by
  obtain ⟨vs, c, e, i⟩ := x
  exact ⟨vs, c, k.keep _ _ e n, i.go k⟩
theorem Items.one {h : Heap} {v : Value} {t : Tx} (a : At h v (.tuple [.str (Prod.fst t), .str (Prod.snd t)])) : Items h [v] [t] := Items.nil.snoc a
theorem cat_lists {l b : Addr} {vs ws : List Value} {n n2 : Nat} {Q : Value → Shared → Prop} (hl : s.heap.get? l = some (listOf vs.toArray n)) (hb : s.heap.get? b = some (listOf ws.toArray n2)) (hz : vs.length + ws.length ≤ 1000)
    (h : ∀ a h', s.heap.get? a = none → Keep2 [] s.heap h' → h'.get? a = some (listOf (vs ++ ws).toArray 0) → Q (.ref a) { s with heap := h' }) : wpAny (MM w) A (binaryOp .Add (.ref l) (.ref b)) Q E s := by
  refine P.add_list hl hb (h _ _ none_of_size (Keep2.push _) ?_) (by simp [PySem.sizeLine_eq]; omega)
  have e : vs.toArray ++ ws.toArray = (vs ++ ws).toArray := by simp
  rw [e]
  exact Heap.get?_push_size _ rfl
theorem cat_toks {l b : Addr} {ts ts2 : List Tx} {Q : Value → Shared → Prop} (hl : TokL s.heap l ts) (hb : TokL s.heap b ts2) (hz : ts.length + ts2.length ≤ 1000)
    (h : ∀ a h', s.heap.get? a = none → Keep2 [] s.heap h' → TokL h' a (ts ++ ts2) → Q (.ref a) { s with heap := h' }) : wpAny (MM w) A (binaryOp .Add (.ref l) (.ref b)) Q E s := by
  refine bc fun hGo => ?_
  obtain ⟨vs, n, e1, i1⟩ := hl
  obtain ⟨ws, n2, e2, i2⟩ := hb
  refine hGo ?_; clear hGo
  exact cat_lists e1 e2 (by rw [i1.1, i2.1]; exact hz) fun a h' na k e => h a h' na k ⟨_, _, e, (i1.go k).app (i2.go k)⟩
theorem one_tok {x y : PySem.Str} {v : Value} {Q : Value → Shared → Prop} (a : At s.heap v (.tuple [.str x, .str y])) (h : ∀ a h', s.heap.get? a = none → Keep2 [] s.heap h' → TokL h' a [(x, y)] → Q (.ref a) { s with heap := h' }) : wpAny (MM w) A (newList [v]) Q E s :=
  new_list fun b h' nb k e => h b h' nb k ⟨[v], 0, e, Items.one (a.go k)⟩
theorem said91 : True := by
  k_with "m:tl" => first | assumption | exact TokL.go ‹_› (by walk_at "tl") List.not_mem_nil | exact TokL.go ‹_› (by walk_at "tl") (nin1 (by first | assumption | exact Ne.symm ‹_›)) | fail "tl"
  k_with "m:newList" => (walk_plain_pass; (refine one_tok (by walk_at "at") ?_; intro aₘ hₘ nₘ kₘ lₘ; have zₘ := Cx.none_of ‹_› nₘ; have Cₘ := Cx.gs ‹_› kₘ; walk_at "more"; try dsimp only))
  k_with "m:binaryOp Add ref ref" => (walk_plain_pass; (refine cat_toks (by walk_at "tl") (by walk_at "tl") (by simp; omega) ?_; intro aₘ hₘ nₘ kₘ lₘ; have zₘ := Cx.none_of ‹_› nₘ; have Cₘ := Cx.gs ‹_› kₘ; walk_at "more"; try dsimp only))
  trivial
theorem C_bracket {l : Addr} {ts : List Tx} {Q : Value → Shared → Prop} (G : Gd w g) (S : St g W s.heap) (hd : A.depth + 0 < recursionLimit) (x : TokL s.heap l ts) (hz : ts.length ≤ 500)
    (h : ∀ a h' tk, s.heap.get? a = none → Keep2 [] s.heap h' → TokL h' a ([sg (ofString "(")] ++ ts ++ [sg (ofString ")")]) → Q (.ref a) { s with heap := h', toks := tk }) : wpAny (MM w) A (call (.ref 733) [.ref l]) Q E s := by
  w_top off
  have S1 : St g [] s.heap := S.none
  refine enterN (W := []) [("inside", .ref l)] G S1 ((fn_at G S (f733 w)).trans rfl) (by kernel_rfl) (by walk_at "dq") (BindsTo.of_eq rfl) (locs rfl) ?_ (by rfl)
  intro L h₁ tk C nL k0
  have x1 : TokL h₁ l ts := x.go (Keep2.all (W := []) k0) List.not_mem_nil
  repeat walk1
  try dsimp only
  with_reducible show Q _ _
  exact h _ _ _ (And.left (by assumption)) (Cx.keep (by assumption) nL) (by assumption)
theorem C_item {x : PySem.Str} {t : Tok} {Q : Value → Shared → Prop} (G : Gd w g) (S : St g W s.heap) (hd : A.depth + 0 < recursionLimit) 
    (h : ∀ a h' tk, Keep2 [] s.heap h' → At h' (.ref a) (refD x) → Q (.ref a) { s with heap := h', toks := tk }) : wpAny (MM w) A (call (.ref 712) [.str x t]) Q E s := by
  w_top off
  have S1 : St g [] s.heap := S.none
  refine enterN (W := []) [("name", .str x t)] G S1 ((fn_at G S (f712 w)).trans rfl) (by kernel_rfl) (by walk_at "dq") (BindsTo.of_eq rfl) (locs rfl) ?_ (by rfl)
  intro L h₁ tk C nL k0
  repeat walk1
  try dsimp only
  with_reducible show Q _ _
  exact h _ _ _ (Cx.keep (by assumption) nL) (by walk_at "at")
section
open G5
def PenAt (h : Heap) (P c : Addr) (turn load : Int) : Prop := ∃ t1 t2, h.IsList P [.ref c, .int turn t1, .int load t2].toArray
def CellsAt (h : Heap) (c : Addr) (xs : List (Int × Tok)) : Prop := ∃ n, h.get? c = some (listOf (xs.map fun x => Value.int x.1 x.2).toArray n)
def Small (xs : List (Int × Tok)) : Prop := xs.length ≤ 30 ∧ ∀ x ∈ xs, 0 ≤ x.1 ∧ x.1 < 10 ^ 41
def PenOk (c : Addr) (h : Heap) (P : Addr) (k : Nat) : Prop := ∃ xs turn load, PenAt h P c turn load ∧ CellsAt h c xs ∧ c ≠ P ∧ Small xs ∧ 0 ≤ turn ∧ turn ≤ k ∧ 0 ≤ load ∧ load < 10 ^ 41
theorem PenAt.go {h h' : Heap} {X : List Addr} {P c : Addr} {turn load : Int} (k : Keep2 X h h') (x : PenAt h P c turn load) (n : P ∉ X) : PenAt h' P c turn load := by
  obtain ⟨a, b, o, e, r⟩ := x
  exact ⟨a, b, o, k.keep _ _ e n, r⟩
theorem CellsAt.go {h h' : Heap} {X : List Addr} {c : Addr} {xs : List (Int × Tok)} (k : Keep2 X h h') (x : CellsAt h c xs) (n : c ∉ X) : CellsAt h' c xs := by
  obtain ⟨d, e⟩ := x
  exact ⟨d, k.keep _ _ e n⟩
theorem PenOk.mono {h : Heap} {P : Addr} {k j : Nat} (x : PenOk pc h P k) (l : k ≤ j) : PenOk pc h P j := by
  obtain ⟨xs, t, d, a1, a2, a3, a4, a5, a6, a7, a8⟩ := x
  exact ⟨xs, t, d, a1, a2, a3, a4, a5, by omega, a7, a8⟩
section
variable {P c : Addr} {turn load : Int} {xs : List (Int × Tok)} {value slice : PySem.Expr} {u : Tok} {Q : Value → Shared → Prop}
theorem pen0 (x : PenAt s.heap P c turn load) (h : Q (.ref c) s) (hs : subscripted slice false (.ref P) (.int 0 u) = operate [.ref P, .int 0 u] (getItem (.ref P) (.int 0 u)) := by with_unfolding_all rfl) : wpAny (MM w) A (subscriptTail value slice (.ref P) (.int 0 u)) Q E s := by
  obtain ⟨_, _, e⟩ := x
  exact l_item e (by omega) (by omega) rfl h hs
theorem pen1 (x : PenAt s.heap P c turn load) (h : ∀ t, Q (.int turn t) s) (hs : subscripted slice false (.ref P) (.int 1 u) = operate [.ref P, .int 1 u] (getItem (.ref P) (.int 1 u)) := by with_unfolding_all rfl) : wpAny (MM w) A (subscriptTail value slice (.ref P) (.int 1 u)) Q E s := by
  obtain ⟨t, _, e⟩ := x
  exact l_item e (by omega) (by omega) rfl (h t) hs
theorem pen2 (x : PenAt s.heap P c turn load) (h : ∀ t, Q (.int load t) s) (hs : subscripted slice false (.ref P) (.int 2 u) = operate [.ref P, .int 2 u] (getItem (.ref P) (.int 2 u)) := by with_unfolding_all rfl) : wpAny (MM w) A (subscriptTail value slice (.ref P) (.int 2 u)) Q E s := by
  obtain ⟨_, t, e⟩ := x
  exact l_item e (by omega) (by omega) rfl (h t) hs
theorem cell_at (x : CellsAt s.heap c xs) (m : Small xs) (h0 : 0 ≤ turn) (h1 : turn < ((xs.length : Nat) : Int)) (h : ∀ v t, 0 ≤ v → v < 10 ^ 41 → Q (.int v t) s) (hs : subscripted slice false (.ref c) (.int turn u) = operate [.ref c, .int turn u] (getItem (.ref c) (.int turn u)) := by with_unfolding_all rfl) : wpAny (MM w) A (subscriptTail value slice (.ref c) (.int turn u)) Q E s := by
  refine bc fun hGo => ?_
  obtain ⟨n, e⟩ := x
  refine hGo ?_; clear hGo
  have hi : turn.toNat < xs.length := by omega
  have b := m.2 _ (List.getElem_mem hi)
  have l := m.1
  exact l_item (list_at e) h0 (by omega) (by rw [List.getElem?_map, List.getElem?_eq_getElem hi]; rfl) (h _ _ b.1 b.2) hs
theorem len_cells (x : CellsAt s.heap c xs) (m : Small xs) (h : Q (.int ((xs.length : Nat) : Int) (s.toks + 1)) { s with toks := s.toks + 1 + 1 }) : wpAny (MM w) A (call (.builtin "len") [.ref c]) Q E s := by
  refine bc fun hGo => ?_
  obtain ⟨n, e⟩ := x
  refine hGo ?_; clear hGo
  have l := m.1
  exact call_len_list (list_at e) (by rw [List.size_toArray, List.length_map]; omega) (by rw [List.size_toArray, List.length_map]; exact h)
theorem sum_cells (x : CellsAt s.heap c xs) (hh : A.handled = none) (h : ∀ v h' tk t, Keep2 [] s.heap h' → Q (.int v t) { s with heap := h', toks := tk }) : wpAny (MM w) A (call (.builtin "sum") [.ref c]) Q E s := by
  refine bc fun hGo => ?_
  obtain ⟨n, e⟩ := x
  refine hGo ?_; clear hGo
  refine sum_intListG (xs := xs.toArray) hh ?_ fun h' tk t k => h _ h' tk t (Keep2.all k)
  have : intItems xs.toArray = (xs.map fun x => Value.int x.1 x.2).toArray := by simp [intItems]
  rw [this]; exact list_at e
theorem list_keep {h h' : Heap} {a : Addr} {vs vs2 : Array Value} (e : h.IsList a vs) (e2 : h'.IsList a vs2) (sb : Heap.SameBut a h h') : Keep2 [a] h h' :=
  keep2_same sb (let ⟨o, q, _⟩ := e2; ⟨o, q⟩) fun o q z => by
    obtain ⟨o', q', c, n, d⟩ := e
    rw [q] at q'; cases q'
    unfold Stab at z; rw [d] at z
    rw [c] at z; simp at z
theorem set1 {v : Int} {t : Tok} {Q : Unit → Shared → Prop} (x : PenAt s.heap P c turn load) (h : ∀ h', Keep2 [P] s.heap h' → PenAt h' P c v load → Q () { s with heap := h' }) : wpAny (MM w) A (setItem (.ref P) (.int 1 u) (.int v t)) Q E s := by
  refine bc fun hGo => ?_
  obtain ⟨t1, t2, e⟩ := x
  refine hGo ?_; clear hGo
  exact wpAny_setItem_list e (by omega) (by omega) (by simp) fun h' il sb => h h' (list_keep e il sb) ⟨_, _, il⟩
theorem set2 {v : Int} {t : Tok} {Q : Unit → Shared → Prop} (x : PenAt s.heap P c turn load) (h : ∀ h', Keep2 [P] s.heap h' → PenAt h' P c turn v → Q () { s with heap := h' }) : wpAny (MM w) A (setItem (.ref P) (.int 2 u) (.int v t)) Q E s := by
  refine bc fun hGo => ?_
  obtain ⟨t1, t2, e⟩ := x
  refine hGo ?_; clear hGo
  exact wpAny_setItem_list e (by omega) (by omega) (by simp) fun h' il sb => h h' (list_keep e il sb) ⟨_, _, il⟩
theorem big7 : ∀ a : Fin 512, Builtin.Int.intTooBig (((Builtin.Int.intBits (a.val : Int) : Nat) : Int) * 7) = false := by decide +kernel
theorem pow7 {a : Int} {t : Tok} (h0 : 5 ≤ a) (h1 : a < 512) (h : Q (.int (a ^ 7) s.toks) { s with toks := s.toks + 1 }) : wpAny (MM w) A (binaryOp .Pow (.int a t) (.int 7 u)) Q E s := by
  have b := big7 ⟨a.toNat, by omega⟩
  have ea : ((a.toNat : Nat) : Int) = a := by omega
  rw [ea] at b
  refine PySem.AutoIntOps.pow_4 (by decide) (by decide) (by simp; omega) (by simp; omega) (by simpa using b) ?_
  exact h
end
theorem pwl {b x : Int} (h0 : 0 ≤ b) (h1 : b < 512) : 0 ≤ b ^ Int.toNat 7 + x.fmod 1000003 ∧ b ^ Int.toNat 7 + x.fmod 1000003 < 10 ^ 41 := by
  rw [Int.fmod_eq_emod_of_nonneg x (by decide)]
  have a1 : 0 ≤ x % 1000003 := by omega
  have a2 : x % 1000003 < 1000003 := by omega
  obtain ⟨n, rfl⟩ := Int.eq_ofNat_of_zero_le h0
  have b1 : n ^ 7 < 512 ^ 7 := Nat.pow_lt_pow_left (by omega) (by decide)
  have e : ((n : Int)) ^ Int.toNat 7 = ((n ^ 7 : Nat) : Int) := by
    rw [Int.natCast_pow]; rfl
  rw [e]
  have b2 : ((n ^ 7 : Nat) : Int) < ((512 ^ 7 : Nat) : Int) := Int.ofNat_lt.mpr b1
  have b3 : ((512 ^ 7 : Nat) : Int) + 1000003 < 10 ^ 41 := by decide
  have b4 : 0 ≤ ((n ^ 7 : Nat) : Int) := Int.natCast_nonneg _
  omega
theorem cutI {M : Model} {e : PySem.Expr} {env : Env} {Q : Value → Shared → Prop} (p : Int → Prop) (h1 : ∀ v t h' tk, p v → Keep2 [] s.heap h' → Q (.int v t) { s with heap := h', toks := tk })
    (h2 : ∀ P : Value → Shared → Prop, (∀ v t h' tk, p v → Keep2 [] s.heap h' → P (.int v t) { s with heap := h', toks := tk }) → wpAny M A (eval e env) P E s) : wpAny M A (eval e env) Q E s := h2 Q h1
theorem draw_end {P : Addr} {xs : List (Int × Tok)} {Q : Value → Shared → Prop} {h' : Heap} {turn' L' : Int} {u : Tok} {tk many k : Nat} (h : ∀ (d : Nat) u h' tk, d < many → Keep2 [P] s.heap h' → PenOk pc h' P (k + 1) → Q (.int (d : Int) u) { s with heap := h', toks := tk }) (hm : 0 < many)
    (p : PenAt h' P pc turn' (L'.fdiv many)) (cs : CellsAt h' pc xs) (nc : pc ≠ P) (sm : Small xs) (t0 : 0 ≤ turn') (t1 : turn' ≤ k + 1) (l : 0 ≤ L' ∧ L' < 10 ^ 41) (kk : Keep2 [P] s.heap h') : Q (.int (L'.fmod many) u) { s with heap := h', toks := tk } := by
  obtain ⟨n, rfl⟩ := Int.eq_ofNat_of_zero_le l.1
  have e1 : ((n : Int)).fmod many = ((n % many : Nat) : Int) := by rw [Int.fmod_eq_emod_of_nonneg _ (by omega)]; rfl
  have e2 : ((n : Int)).fdiv many = ((n / many : Nat) : Int) := by rw [Int.fdiv_eq_ediv_of_nonneg _ (by omega)]; rfl
  rw [e2] at p
  rw [e1]
  have := Nat.div_le_self n many
  exact h _ u h' tk (Nat.mod_lt _ hm) kk ⟨xs, turn', _, p, cs, nc, sm, t0, by omega, Int.natCast_nonneg _, Int.lt_of_le_of_lt (Int.ofNat_le.mpr this) l.2⟩
theorem PenAt.ne_L {h : Heap} {P c L : Addr} {turn load : Int} {m : PySem.Str → Option Value} (x : PenAt h P c turn load) (hn : h.Ns L m) : P ≠ L := by
  obtain ⟨_, _, e⟩ := x
  exact list_ne_L e hn
theorem CellsAt.ne_L {h : Heap} {c L : Addr} {xs : List (Int × Tok)} {m : PySem.Str → Option Value} (x : CellsAt h c xs) (hn : h.Ns L m) : c ≠ L := by
  obtain ⟨_, e⟩ := x
  exact list_ne_L (list_at e) hn
theorem said92 : True := by
  k_with "m:pn" => (guard_expr on5 =ₛ on5; first | assumption | exact PenAt.go ‹_› (by walk_at "pn") (by walk_at "nin") | fail "pn")
  k_with "m:cs" => (guard_expr on5 =ₛ on5; first | assumption | exact CellsAt.go ‹_› (by walk_at "cs") (by walk_at "nin") | fail "cs")
  k_with "m:subscriptTail" => (guard_expr on5 =ₛ on5; (walk_plain_pass; first
      | ((with_reducible show wpAny _ _ (subscriptTail _ _ _ (Value.int 0 _)) _ _ _); refine pen0 (by walk_at "pn") ?_)
      | ((with_reducible show wpAny _ _ (subscriptTail _ _ _ (Value.int 1 _)) _ _ _); refine pen1 (by walk_at "pn") ?_; intro _)
      | ((with_reducible show wpAny _ _ (subscriptTail _ _ _ (Value.int 2 _)) _ _ _); refine pen2 (by walk_at "pn") ?_; intro _)
      | (refine cell_at (by walk_at "cs") ‹_› (by walk_at "om") (by walk_at "om") ?_; intro _ _ _ _)
      | fail "pen"))
  k_with "m:callWith builtin:len" => (guard_expr on5 =ₛ on5; refine PyProof.Rows.callWith_method1 ?_)
  k_with "m:callWith builtin:sum" => (guard_expr on5 =ₛ on5; refine PyProof.Rows.callWith_method1 ?_)
  k_with "m:call builtin:len" => (guard_expr on5 =ₛ on5; (walk_plain_pass; refine len_cells (by walk_at "cs") ‹_› ?_))
  k_with "m:call builtin:sum" => (guard_expr on5 =ₛ on5; (walk_plain_pass; (refine sum_cells (by walk_at "cs") ‹_› ?_; intro _ _ _ _ kₘ; have Cₘ := Cx.gs ‹_› kₘ; try dsimp only)))
  k_with "m:setItem ref int" => (guard_expr on5 =ₛ on5; (walk_plain_pass; (try dsimp only); first
      | ((with_reducible show wpAny _ _ (setItem _ (Value.int 1 _) _) _ _ _); refine set1 (by walk_at "pn") ?_; intro hₘ kₘ pₘ; have Cₘ := Cx.gs ‹_› kₘ; try dsimp only)
      | ((with_reducible show wpAny _ _ (setItem _ (Value.int 2 _) _) _ _ _); refine set2 (by walk_at "pn") ?_; intro hₘ kₘ pₘ; have Cₘ := Cx.gs ‹_› kₘ; try dsimp only)
      | fail "set"))
  trivial
theorem C_draw {P : Addr} {many k : Nat} {t : Tok} {Q : Value → Shared → Prop} (G : Gd w g) (S : St g W s.heap) (hW : ∀ x ∈ ([P] : List Addr), x ∈ W) (hh : A.handled = none) (hd : A.depth + 4 < recursionLimit) (x : PenOk pc s.heap P k) (hk : k < 200) (hm : 0 < many) (hm2 : many ≤ 50)
    (h : ∀ (d : Nat) u h' tk, d < many → Keep2 [P] s.heap h' → PenOk pc h' P (k + 1) → Q (.int (d : Int) u) { s with heap := h', toks := tk }) : wpAny (MM w) A (call (.ref 688) [.ref P, .int (many : Int) t]) Q E s := by
  w_top off
  have S1 : St g [P] s.heap := S.less hW
  refine enterN (W := [P]) [("pen", .ref P), ("many", .int (many : Int) t)] G S1 ((fn_at G S (f688 w)).trans rfl) (by kernel_rfl) (by walk_at "dq") (BindsTo.of_eq rfl) (locs rfl) ?_ (by rfl)
  intro L h₁ tk C nL k0
  refine bc fun hGo => ?_
  obtain ⟨xs, turn, load, pn, cs, nc, sm, ht1, ht2, hl1, hl2⟩ := x
  refine hGo ?_; clear hGo
  have pL : P ≠ L := ne_of_live (let ⟨_, _, o, e, _⟩ := pn; ⟨o, e⟩) nL
  have cL : pc ≠ L := ne_of_live (let ⟨_, e⟩ := cs; ⟨_, e⟩) nL
  have pn1 : PenAt h₁ P pc turn load := pn.go (Keep2.all (W := []) k0) List.not_mem_nil
  have cs1 : CellsAt h₁ pc xs := cs.go (Keep2.all (W := []) k0) List.not_mem_nil
  repeat ((fail_if_success (with_reducible show wpAny _ _ (eval (PySem.Expr.IfExp _ _ _ _) _) _ _ _)); walk1)
  all_goals (repeat ((fail_if_success (with_reducible show wpAny _ _ (eval (PySem.Expr.IfExp _ _ _ _) _) _ _ _)); walk1))
  all_goals first
    | with_reducible show Q _ _
    | (refine cutI (fun v => 0 ≤ v ∧ v < 10 ^ 41) (fun v tv h9 tk9 hv k9 => ?_) fun P hp => ?_)
  all_goals first
    | with_reducible show Q _ _
    | (have C9 := Cx.gs (by assumption) k9; try dsimp only; repeat ((fail_if_success (with_reducible show wpAny _ _ (eval (PySem.Expr.IfExp _ _ _ _) _) _ _ _)); walk1))
    | (repeat walk1)
  all_goals first
    | (with_reducible show Q _ _)
    | (fail_if_success have := hp; skip)
    | (repeat walk1)
  all_goals try (exact hp _ _ _ _ (by first | omega | exact pwl (by omega) (by omega)) (by first | exact .refl | assumption))
  all_goals first
    | with_reducible show Q _ _
    | (refine cutI (fun v => 0 ≤ v ∧ v < 10 ^ 41) (fun v tv h8 tk8 hw k8 => ?_) fun P hp => ?_)
  all_goals first
    | with_reducible show Q _ _
    | (have C8 := Cx.gs (by assumption) k8; try dsimp only; repeat ((fail_if_success (with_reducible show wpAny _ _ (eval (PySem.Expr.IfExp _ _ _ _) _) _ _ _)); walk1))
    | (repeat walk1)
  all_goals first
    | (with_reducible show Q _ _)
    | (fail_if_success have := hp; skip)
    | (repeat walk1)
  all_goals try (exact hp _ _ _ _ (by first | omega | exact pwl (by omega) (by omega)) (by first | exact .refl | assumption))
  all_goals (repeat walk1)
  all_goals (repeat walk1)
  all_goals try dsimp only
  all_goals (refine draw_end h hm (by assumption) (by walk_at "cs") nc sm (by omega) (by omega) ?_ (Cx.keep (by assumption) nL))
  all_goals first | omega | exact pwl (by omega) (by omega)
theorem cell_bound (z : Int) : 0 ≤ (if z < 0 then -z else z).fmod (10 ^ Int.toNat 40) + 10 ^ Int.toNat 40 * (if decide (z < 0) = true then 1 else 0) ∧ (if z < 0 then -z else z).fmod (10 ^ Int.toNat 40) + 10 ^ Int.toNat 40 * (if decide (z < 0) = true then 1 else 0) < 10 ^ 41 := by
  have e : (10 : Int) ^ Int.toNat 40 = 10000000000000000000000000000000000000000 := by decide
  have e2 : (10 : Int) ^ 41 = 100000000000000000000000000000000000000000 := by decide
  rw [e, e2, Int.fmod_eq_emod_of_nonneg _ (by decide)]
  by_cases c : z < 0
  · simp only [c, if_true, decide_true]; omega
  · simp only [c, if_false, decide_false, Bool.false_eq_true]; omega
theorem pick30 (items : Array Value) : slicePick items none (some 30) none = (items.toList.take 30).toArray := by
  by_cases c : 30 ≤ items.size
  · exact slicePick_upto items 30 c
  · have e : slicePick items none (some 30) none = slicePick items none (some (items.size : Int)) none := by
      unfold slicePick
      have : sliceBounds none (some 30) none items.size = sliceBounds none (some (items.size : Int)) none items.size := by
        simp only [sliceBounds]
        simp
        rw [if_neg (Int.not_lt.mpr (Int.natCast_nonneg _)), Int.min_self, Int.min_eq_right (show (items.size : Int) ≤ 30 from Int.ofNat_le.mpr (Nat.le_of_lt (Nat.lt_of_not_le c)))]
      rw [this]
    rw [e, slicePick_upto items items.size (Nat.le_refl _), List.take_of_length_le (by simp), List.take_of_length_le (by simp; omega)]
theorem slice30 {value slice : PySem.Expr} {l : Addr} {vs : List Value} {u : Tok} {Q : Value → Shared → Prop} (hl : s.heap.IsList l vs.toArray) (hz : vs.length ≤ 64) (h : ∀ a h', Keep2 [] s.heap h' → h'.get? a = some (listOf (vs.take 30).toArray 0) → Q (.ref a) { s with heap := h' })
    (hs : subscripted slice false (.ref l) (.ref s.heap.objs.size) = operate [.ref s.heap.objs.size, .ref l] (getItem (.ref l) (.ref s.heap.objs.size)) := by with_unfolding_all rfl)
    (ht : ∀ r, letTemporaryGo value (.ref l) r = pure () := by intro _; with_unfolding_all rfl) :
    wpAny (MM w) A (subscriptTail value slice (.ref l) (.ref s.heap.objs.size)) Q E { s with heap := s.heap.push { cls := .type "slice", data := .fields #[.none, .int 30 u, .none] } } := by
  refine subscriptTail_ops (Heap.IsList.typeIs (s := { s with heap := s.heap.push { cls := .type "slice", data := .fields #[.none, .int 30 u, .none] } }) (hl.push _)) list_getitem_lookup
    (wpAny_getItem_list_slice (hl.push _) (Heap.IsSliceOf.new ..) (lo := none) (hi := some 30) .none (.int _ _) .none (by simp) ?_ (by simp [PySem.sizeLine_eq]; omega)) hs ht
  refine h _ _ ((Keep2.push _).trans (Keep2.push _)) ?_
  have e := Heap.get?_push_size (s.heap.push { cls := .type "slice", data := .fields #[.none, .int 30 u, .none] }) (o := { cls := .type "list", data := .seq (slicePick vs.toArray none (some 30) none) }) rfl
  rw [pick30] at e
  simpa [pick30] using e
theorem C_pen {l : Addr} {xs : List (Int × Tok)} {Q : Value → Shared → Prop} (G : Gd w g) (S : St g W s.heap) (hh : A.handled = none) (hd : A.depth + 4 < recursionLimit) (x : s.heap.IsList l (xs.map fun x => Value.int x.1 x.2).toArray) (hz : xs.length ≤ 64)
    (h : ∀ P pc h' tk, s.heap.get? P = none → s.heap.get? pc = none → Keep2 [] s.heap h' → PenOk pc h' P 0 → Q (.ref P) { s with heap := h', toks := tk }) : wpAny (MM w) A (call (.ref 681) [.ref l]) Q E s := by
  w_top off
  have S1 : St g [] s.heap := S.none
  refine enterN (W := []) [("script", .ref l)] G S1 ((fn_at G S (f681 w)).trans rfl) (by kernel_rfl) (by walk_at "dq") (BindsTo.of_eq rfl) (locs rfl) ?_ (by rfl)
  intro L h₁ tk C nL k0
  have x1 : h₁.IsList l (xs.map fun x => Value.int x.1 x.2).toArray := by obtain ⟨o, e, r⟩ := x; exact ⟨o, k0 _ _ e, r⟩
  walk1
  with_unfolding_all refine listcomp_assign [] (by rfl) (by rfl) (by rfl) (by decide) ?_
  walk1; walk1; walk1; walk1; walk1
  repeat walk1
  try dsimp only
  refine slice30 (s := ⟨_, _, _, _, _⟩) x1 (by simpa using hz) fun la h2 k2 e2 => ?_
  have C2 := C.gs k2
  try dsimp only
  refine comp_over_as (n := (xs.take 30).length) (by kernel_rfl) (by rfl) (fun I a K i vs h => ∃ ys : List (Int × Tok), vs = ys.map (fun x => Value.int x.1 x.2) ∧ ys.length = i ∧ ∀ y ∈ ys, 0 ≤ y.1 ∧ y.1 < 10 ^ 41) C2 nL (.inl (list_at e2)) List.not_mem_nil (by simp) hh (by simp; omega) (by decide) (by rfl) ⟨?_, ?_, ?_⟩ ?_
  · intro _ _ _ _ _ _ _ _
    exact ⟨[], rfl, rfl, fun _ q => nomatch q⟩
  · intro _ _ _ _ _ _ _ J _
    exact J
  · intro I a K i v vs h' tk3 m' nI na nK aK hi hv hP Cc zK kk la' lI hJ E'
    refine bc fun hGo => ?_
    obtain ⟨ys, y1, y2, y3⟩ := hJ
    refine hGo ?_; clear hGo
    obtain ⟨z, u, hv1⟩ : ∃ z u, v = .int z u := by
      rw [← List.map_take, List.getElem?_map] at hP
      obtain ⟨p, _, q⟩ := Option.map_eq_some_iff.mp hP
      exact ⟨_, _, q.symm⟩
    subst hv1
    refine wpAny_assign_Name (store (s := ⟨h', s.gens, s.drawn, tk3, s.os⟩) (env := compEnvC _ [] K _) Cc (fun h3 C3 k3 => ?_) (by rfl) (by kernel_rfl))
    try dsimp only
    repeat walk1
    try dsimp only
    refine ⟨⟨_, _, _, rfl, by assumption, k3, ys ++ [(_, _)], (by rw [y1, List.map_append]; rfl), (by simp [y2]), ?_⟩⟩
    intro y hy
    rcases List.mem_append.mp hy with hy | hy
    · exact y3 y hy
    · rw [List.mem_singleton.mp hy]
      exact cell_bound z
  · intro I a K vs h' tk3 n' nI na nK Cc kk hJ ha hv
    repeat walk1
    try dsimp only
    rename Cx _ _ _ _ _ _ => C9; rename Keep2 _ _ _ => k9; rename Heap.get? _ _ = none => nP; rename Heap.get? _ _ = some (listOf _ _) => e9
    refine bc fun hGo => ?_
    obtain ⟨ys, y1, y2, y3⟩ := (let ⟨_, _, x, _⟩ := hJ; x)
    refine hGo ?_; clear hGo
    subst y1
    have nP0 := (Cx.none_of Cc nP).1
    refine h _ a _ _ nP0 (Cx.none_of C2 na).1 (C9.keep nL) ⟨ys, 0, 0, ⟨_, _, list_at (vs := [.ref a, .int 0 _, .int 0 _]) e9⟩, ⟨n', k9.keep _ _ ha List.not_mem_nil⟩, (fun q => by rw [← q] at nP; rw [nP] at ha; cases ha), ⟨by rw [y2]; simp; omega, y3⟩, by omega, by omega, by omega, by decide⟩
theorem PenOk.go0 {h h' : Heap} {P : Addr} {k : Nat} (kk : Keep2 [] h h') (x : PenOk pc h P k) : PenOk pc h' P k := by
  obtain ⟨xs, t, d, a1, a2, a3, a4, a5, a6, a7, a8⟩ := x
  exact ⟨xs, t, d, a1.go kk List.not_mem_nil, a2.go kk List.not_mem_nil, a3, a4, a5, a6, a7, a8⟩
theorem PenOk.sto {h h' : Heap} {P : Addr} {k : Nat} {h0 : Heap} {L : Addr} {m : PySem.Str → Option Value} (kk : Keep2 [L] h h') (C : Cx g W h0 L m h) (x : PenOk pc h P k) : PenOk pc h' P k := by
  obtain ⟨xs, t, d, a1, a2, a3, a4, a5, a6, a7, a8⟩ := x
  exact ⟨xs, t, d, a1.go kk fun q => a1.ne_L C.ns (List.mem_singleton.mp q), a2.go kk fun q => a2.ne_L C.ns (List.mem_singleton.mp q), a3, a4, a5, a6, a7, a8⟩
theorem PenOk.live {h : Heap} {P : Addr} {k : Nat} (x : PenOk pc h P k) : ∃ o, h.get? P = some o := by
  obtain ⟨_, _, _, ⟨_, _, o, e, _⟩, _⟩ := x
  exact ⟨o, e⟩
theorem said93 : True := by
  k_with "m:po" => (guard_expr on5 =ₛ on5; first | assumption | exact PenOk.go0 ‹_› (by walk_at "po") | exact PenOk.sto ‹_› ‹_› (by walk_at "po") | fail "po")
  k_with "m:call ref" => (guard_expr on5 =ₛ on5; (walk_plain_pass; ((with_reducible show wpAny _ _ (call (Value.ref 688) _) _ _ _); refine C_draw ‹_› (Cx.st ‹_›) (by walk_at "sm") ‹_› (by walk_at "dp") (by walk_at "po") (by walk_at "om") (by walk_at "om") (by walk_at "om") ?_; intro dₘ uₘ hₘ tkₘ ldₘ kₘ poₘ; have Cₘ := Cx.gs ‹_› kₘ; try dsimp only)))
  trivial
theorem str_item {value slice : PySem.Expr} {l : Addr} {vs : List Value} {ys : List PySem.Str} {n d : Nat} {u : Tok} {Q : Value → Shared → Prop} (hl : s.heap.get? l = some (listOf vs.toArray n)) (hy : ∀ v ∈ vs, ∃ x t, v = .str x t ∧ x ∈ ys) (hz : vs.length ≤ 50) (hd : d < vs.length) (h : ∀ x t, x ∈ ys → Q (.str x t) s)
    (hs : subscripted slice false (.ref l) (.int (d : Int) u) = operate [.ref l, .int (d : Int) u] (getItem (.ref l) (.int (d : Int) u)) := by with_unfolding_all rfl) : wpAny (MM w) A (subscriptTail value slice (.ref l) (.int (d : Int) u)) Q E s := by
  refine bc fun hGo => ?_
  obtain ⟨x, t, e, m⟩ := hy _ (List.getElem_mem hd)
  refine hGo ?_; clear hGo
  exact l_item (list_at hl) (by omega) (by omega) (by rw [Int.toNat_natCast, List.getElem?_eq_getElem hd, e]) (h x t m) hs
theorem C_pick {P l : Addr} {k n : Nat} {vs : List Value} {ys : List PySem.Str} {Q : Value → Shared → Prop} (G : Gd w g) (S : St g W s.heap) (hW : ∀ x ∈ ([P] : List Addr), x ∈ W) (hh : A.handled = none) (hd : A.depth + 6 < recursionLimit) (x : PenOk pc s.heap P k) (hk : k < 200) (hl : s.heap.get? l = some (listOf vs.toArray n)) (hy : ∀ v ∈ vs, ∃ x t, v = .str x t ∧ x ∈ ys) (h0 : 0 < vs.length) (hz : vs.length ≤ 50) (nl : l ≠ P)
    (h : ∀ x t h' tk, x ∈ ys → Keep2 [P] s.heap h' → PenOk pc h' P (k + 1) → Q (.str x t) { s with heap := h', toks := tk }) : wpAny (MM w) A (call (.ref 695) [.ref P, .ref l]) Q E s := by
  w_top off
  have S1 : St g [P] s.heap := S.less hW
  refine enterN (W := [P]) [("pen", .ref P), ("some", .ref l)] G S1 ((fn_at G S (f695 w)).trans rfl) (by kernel_rfl) (by walk_at "dq") (BindsTo.of_eq rfl) (locs rfl) ?_ (by rfl)
  intro L h₁ tk C nL k0
  have pL : P ≠ L := ne_of_live x.live nL
  have x1 : PenOk pc h₁ P k := x.go0 (Keep2.all (W := []) k0)
  have hl1 := k0 _ _ hl
  repeat walk1
  refine call_len_list (list_at hl1) (by rw [List.size_toArray]; omega) ?_
  rw [List.size_toArray]
  repeat walk1
  try dsimp only
  refine str_item (Keep2.keep (by assumption) _ _ hl1 (by simpa using nl)) hy hz (by assumption) (fun x t hx => ?_) (by with_unfolding_all rfl)
  repeat walk1
  try dsimp only
  exact h x t _ _ hx (Cx.keep (by assumption) nL) (by assumption)
abbrev relD (y : PySem.Str) (a b : PyData) : PyData := .tuple [.str (ofString "rel"), .str y, a, b]
inductive Lf : List Tx → PyData → Bool → Prop
  | done : Lf [wd (ofString "DONE")] (.tuple [.str (ofString "named"), refD (ofString "DONE")]) true
  | eqn {x s : PySem.Str} {v : Nat} : isNm x → (ofString "DONE" == x) = false → Dg s v → Lf [wd x, sg (ofString "="), nb s] (relD (ofString "=") (refD x) (numD v)) true
  | eqN {x : PySem.Str} : isNm x → (ofString "DONE" == x) = false → Lf [wd x, wd (ofString "EQUAL"), wd (ofString "TO"), wd (ofString "N")] (relD (ofString "=") (refD x) (refD (ofString "N"))) true
  | neq {x s : PySem.Str} {v : Nat} : isNm x → Dg s v → Lf [nb s, sg (ofString "="), wd x] (relD (ofString "=") (numD v) (refD x)) false
  | rel {x y s : PySem.Str} {v : Nat} : isNm x → (ofString "DONE" == x) = false → Dg s v → y ∈ [ofString "<", ofString ">", ofString "<=", ofString ">="] → Lf [wd x, sg y, nb s] (relD y (refD x) (numD v)) false
  | num {x : PySem.Str} : isNm x → (ofString "DONE" == x) = false → Lf [wd x, wd (ofString "IS"), wd (ofString "NUMERIC")] (.tuple [.str (ofString "class"), .str (ofString "NUMERIC"), refD x]) false
  | zero {x : PySem.Str} : isNm x → (ofString "DONE" == x) = false → Lf [wd x, wd (ofString "IS"), wd (ofString "ZERO")] (.tuple [.str (ofString "sign"), .str (ofString "ZERO"), refD x]) false
theorem km_nm {x : PySem.Str} (m : x ∈ [ofString "K", ofString "M"]) : isNm x ∧ (ofString "DONE" == x) = false ∧ Txt.split x (ofString " ") = [x] ∧ x.length < 1000 ∧ (x == ofString "") = false := by
  rcases List.mem_cons.mp m with q | q
  · subst q; exact ⟨.inl rfl, by decide, by kernel_rfl, by decide, by decide⟩
  · rw [List.mem_singleton.mp q]; exact ⟨.inr (.inl rfl), by decide, by kernel_rfl, by decide, by decide⟩
theorem dg50a : ∀ v : Fin 50, (if v.val < 10 then PySem.Str.ofString (toString (v.val : Int)) = ⟨#[48 + v.val]⟩ else PySem.Str.ofString (toString (v.val : Int)) = ⟨#[48 + v.val / 10, 48 + v.val % 10]⟩) := by decide +kernel
theorem dg50 {v : Nat} (h : v < 50) : Dg (PySem.Str.ofString (toString (v : Int))) v := by
  have a := dg50a ⟨v, h⟩
  by_cases c : v < 10
  · simp only [c, if_true] at a
    exact .inl ⟨v, c, a, rfl⟩
  · simp only [c, if_false] at a
    exact .inr ⟨v / 10, v % 10, by omega, by omega, a, by omega⟩
theorem ne_pen {h : Heap} {a P : Addr} {k : Nat} (n : h.get? a = none) (x : PenOk pc h P k) : a ≠ P := fun q => by obtain ⟨o, e⟩ := x.live; rw [← q, n] at e; cases e
theorem strs2 {a b : PySem.Str} {t u : Tok} : ∀ v ∈ [Value.str a t, Value.str b u], ∃ x t, v = .str x t ∧ x ∈ [a, b] := by
  intro v m
  rcases List.mem_cons.mp m with q | q
  · exact ⟨a, t, q, .head _⟩
  · exact ⟨b, u, List.mem_singleton.mp q, .tail _ (.head _)⟩
theorem strs4 {a b c d : PySem.Str} {t u v w : Tok} : ∀ y ∈ [Value.str a t, Value.str b u, Value.str c v, Value.str d w], ∃ x t, y = .str x t ∧ x ∈ [a, b, c, d] := by
  intro y m
  simp only [List.mem_cons, List.not_mem_nil, or_false] at m
  rcases m with q | q | q | q
  · exact ⟨_, _, q, by simp⟩
  · exact ⟨_, _, q, by simp⟩
  · exact ⟨_, _, q, by simp⟩
  · exact ⟨_, _, q, by simp⟩
theorem two_tok {x y x2 y2 : PySem.Str} {v v2 : Value} {Q : Value → Shared → Prop} (a : At s.heap v (.tuple [.str x, .str y])) (b : At s.heap v2 (.tuple [.str x2, .str y2])) (h : ∀ a h', s.heap.get? a = none → Keep2 [] s.heap h' → TokL h' a [(x, y), (x2, y2)] → Q (.ref a) { s with heap := h' }) : wpAny (MM w) A (newList [v, v2]) Q E s :=
  new_list fun c h' nb k e => h c h' nb k ⟨[v, v2], 0, e, (Items.one (t := (x, y)) (a.go k)).app (Items.one (t := (x2, y2)) (b.go k))⟩
theorem str_nat {v : Nat} {t : Tok} {Q : Value → Shared → Prop} (hv : v < 50) (h : Q (.str (PySem.Str.ofString (toString (v : Int))) s.toks) { s with toks := s.toks + 1 }) : wpAny (MM w) A (call (.type "str") [.int (v : Int) t]) Q E s :=
  PyProof.Rows.str_of_int_fit (a := (v : Int)) (N := 100) (by split <;> omega) (by decide) fun _ => h
theorem TokL.sto {h h' : Heap} {l : Addr} {us : List Tx} {h0 : Heap} {L : Addr} {m : PySem.Str → Option Value} (kk : Keep2 [L] h h') (C : Cx g W h0 L m h) (x : TokL h l us) : TokL h' l us := by
  obtain ⟨vs, n, e, i⟩ := x
  exact ⟨vs, n, kk.keep _ _ e fun q => list_ne_L (list_at e) C.ns (List.mem_singleton.mp q), i.go kk⟩
theorem said94 : True := by
  k_with "m:tl" => (guard_expr on5 =ₛ on5; first | assumption | exact TokL.go ‹_› (by walk_at "tl") List.not_mem_nil | exact TokL.sto ‹_› ‹_› (by walk_at "tl") | exact TokL.go ‹_› (by walk_at "tl") (nin1 (by first | assumption | exact Ne.symm ‹_›)) | fail "tl")
  trivial
theorem leaf_end {P a l : Addr} {k j kind : Nat} {dv : Value} {us : List Tx} {d : PyData} {b : Bool} {h' : Heap} {tk : Nat} {Q : Value → Shared → Prop} (h : ∀ a l dv us d b h' tk, s.heap.get? l = none → Keep2 [P] s.heap h' → PenOk pc h' P (k + 3) → h'.get? a = some (tupO [.ref l, dv, .bool b]) → TokL h' l us → At h' dv d → Lf us d b → (kind < 4 → b = true) → Q (.ref a) { s with heap := h', toks := tk })
    (e : h'.get? a = some (tupO [.ref l, dv, .bool b])) (tl : TokL h' l us) (at_ : At h' dv d) (lf : Lf us d b) (fr : s.heap.get? l = none) (kk : Keep2 [P] s.heap h') (po : PenOk pc h' P j) (hj : j ≤ k + 3) (kb : kind < 4 → b = true) : Q (.ref a) { s with heap := h', toks := tk } := h a l dv us d b h' tk fr kk (po.mono hj) e tl at_ lf kb
theorem said95 : True := by
  k_with "m:newList" => (guard_expr on5 =ₛ on5; (walk_plain_pass; first
      | (refine one_tok (by walk_at "at") ?_; intro aₘ hₘ nₘ kₘ lₘ; have zₘ := Cx.none_of ‹_› nₘ; (first | have npₘ := ne_pen nₘ (by walk_at "po") | skip); have Cₘ := Cx.gs ‹_› kₘ; try dsimp only)
      | (refine two_tok (by walk_at "at") (by walk_at "at") ?_; intro aₘ hₘ nₘ kₘ lₘ; have zₘ := Cx.none_of ‹_› nₘ; (first | have npₘ := ne_pen nₘ (by walk_at "po") | skip); have Cₘ := Cx.gs ‹_› kₘ; try dsimp only)
      | (refine new_list ?_; intro aₘ hₘ nₘ kₘ eₘ; have npₘ := ne_pen nₘ (by walk_at "po"); have Cₘ := Cx.gs ‹_› kₘ; try dsimp only)
      | fail "newList"))
  k_with "m:callWith type:str" => (guard_expr on5 =ₛ on5; with_unfolding_all refine Pv.callWith_type1 ?_)
  k_with "m:call type:str" => (guard_expr on5 =ₛ on5; (walk_plain_pass; refine str_nat ‹_› ?_))
  k_with "m:binaryOp Add ref ref" => (guard_expr on5 =ₛ on5; (walk_plain_pass; (refine cat_toks (by walk_at "tl") (by walk_at "tl") (by simp <;> omega) ?_; intro aₘ hₘ nₘ kₘ lₘ; have zₘ := Cx.none_of ‹_› nₘ; (first | have npₘ := ne_pen nₘ (by walk_at "po") | skip); have Cₘ := Cx.gs ‹_› kₘ; try dsimp only)))
  k_with "m:call ref" => (guard_expr on5 =ₛ on5; (walk_plain_pass; (first
      | ((with_reducible show wpAny _ _ (call (Value.ref 695) _) _ _ _); refine C_pick ‹_› (Cx.st ‹_›) (by walk_at "sm") ‹_› (by walk_at "dp") (by walk_at "po") (by walk_at "om") ‹_› strs2 (by simp; done) (by simp; done) ‹_› ?_; intro xₘ tₘ hₘ tkₘ mₘ kₘ poₘ; have kmₘ := km_nm mₘ; have Cₘ := Cx.gs ‹_› kₘ; try dsimp only)
      | ((with_reducible show wpAny _ _ (call (Value.ref 695) _) _ _ _); refine C_pick ‹_› (Cx.st ‹_›) (by walk_at "sm") ‹_› (by walk_at "dp") (by walk_at "po") (by walk_at "om") ‹_› strs4 (by simp; done) (by simp; done) ‹_› ?_; intro xₘ tₘ hₘ tkₘ mₘ kₘ poₘ; have Cₘ := Cx.gs ‹_› kₘ; try dsimp only)
      | fail "pick")))
  k_with "m:call ref" => (guard_expr on5 =ₛ on5; (walk_plain_pass; ((with_reducible show wpAny _ _ (call (Value.ref 688) [_, Value.int 50 _]) _ _ _); (refine C_draw (many := 50) ‹_› (Cx.st ‹_›) (by walk_at "sm") ‹_› (by walk_at "dp") (by walk_at "po") (by walk_at "om") (by walk_at "om") (by walk_at "om") ?_; intro dₘ uₘ hₘ tkₘ ldₘ kₘ poₘ; have Cₘ := Cx.gs ‹_› kₘ; try dsimp only))))
  k_with "m:call ref" => (guard_expr on5 =ₛ on5; (walk_plain_pass; ((with_reducible show wpAny _ _ (call (Value.ref 712) _) _ _ _); (refine C_item ‹_› (Cx.st ‹_›) (by walk_at "dp") ?_; intro aₘ hₘ tkₘ kₘ iₘ; have Cₘ := Cx.gs ‹_› kₘ; try dsimp only))))
  k_with "m:call ref" => (guard_expr on5 =ₛ on5; (walk_plain_pass; ((with_reducible show wpAny _ _ (call (Value.ref 700) _) _ _ _); (first | (refine C_words (ws := [_]) ‹_› (Cx.st ‹_›) ‹_› (by walk_at "dp") (And.left (And.right (And.right ‹_›))) (And.left (And.right (And.right (And.right ‹_›)))) (And.right (And.right (And.right (And.right ‹_›)))) (by simp; done) ?_) | ((with_reducible show wpAny _ _ (call (Value.ref 700) [Value.str (ofString "DONE") _]) _ _ _); refine C_words (ws := [ofString "DONE"]) ‹_› (Cx.st ‹_›) ‹_› (by walk_at "dp") (by kernel_rfl!) (by decide) (by kernel_rfl!) (by decide) ?_) | ((with_reducible show wpAny _ _ (call (Value.ref 700) [Value.str (ofString "EQUAL TO N") _]) _ _ _); refine C_words (ws := [ofString "EQUAL", ofString "TO", ofString "N"]) ‹_› (Cx.st ‹_›) ‹_› (by walk_at "dp") (by kernel_rfl!) (by decide) (by kernel_rfl!) (by decide) ?_) | ((with_reducible show wpAny _ _ (call (Value.ref 700) [Value.str (ofString "IS NUMERIC") _]) _ _ _); refine C_words (ws := [ofString "IS", ofString "NUMERIC"]) ‹_› (Cx.st ‹_›) ‹_› (by walk_at "dp") (by kernel_rfl!) (by decide) (by kernel_rfl!) (by decide) ?_) | ((with_reducible show wpAny _ _ (call (Value.ref 700) [Value.str (ofString "IS ZERO") _]) _ _ _); refine C_words (ws := [ofString "IS", ofString "ZERO"]) ‹_› (Cx.st ‹_›) ‹_› (by walk_at "dp") (by kernel_rfl!) (by decide) (by kernel_rfl!) (by decide) ?_) | fail "words"); (intro aₘ hₘ tkₘ nₘ kₘ lₘ; have zₘ := Cx.none_of ‹_› nₘ; (first | have npₘ := ne_pen nₘ (by walk_at "po") | skip); have Cₘ := Cx.gs ‹_› kₘ; try dsimp only))))
  trivial
theorem C_leafK {P : Addr} {k kind : Nat} {t : Tok} {Q : Value → Shared → Prop} (G : Gd w g) (S : St g W s.heap) (hW : ∀ x ∈ ([P] : List Addr), x ∈ W) (hh : A.handled = none) (hd : A.depth + 12 < recursionLimit) (x : PenOk pc s.heap P k) (hk : k < 190)
    (h : ∀ a l dv us d b h' tk, s.heap.get? l = none → Keep2 [P] s.heap h' → PenOk pc h' P (k + 3) → h'.get? a = some (tupO [.ref l, dv, .bool b]) → TokL h' l us → At h' dv d → Lf us d b → (kind < 4 → b = true) → Q (.ref a) { s with heap := h', toks := tk }) : wpAny (MM w) A (call (.ref 719) [.ref P, .int (kind : Int) t]) Q E s := by
  w_top off
  have S1 : St g [P] s.heap := S.less hW
  refine enterN (W := [P]) [("pen", .ref P), ("kind", .int (kind : Int) t)] G S1 ((fn_at G S (f719 w)).trans rfl) (by kernel_rfl) (by walk_at "dq") (BindsTo.of_eq rfl) (locs rfl) ?_ (by rfl)
  intro L h₁ tk C nL k0
  have pL : P ≠ L := ne_of_live x.live nL
  have x1 : PenOk pc h₁ P k := x.go0 (Keep2.all (W := []) k0)
  repeat walk1
  all_goals (repeat walk1)
  all_goals (repeat walk1)
  all_goals (repeat walk1)
  all_goals (repeat walk1)
  all_goals (repeat walk1)
  all_goals (repeat walk1)
  all_goals try dsimp only
  all_goals (with_reducible show Q _ _)
  all_goals refine leaf_end h (by assumption) (by walk_at "tl") (by walk_at "at") ?_ (And.left (by assumption)) (Cx.keep (by assumption) nL) (by walk_at "po") (by omega) ?_
  all_goals first
    | exact fun _ => rfl
    | (intro hk4; exfalso; omega)
    | skip
  all_goals first
    | exact Lf.done
    | exact Lf.eqn (And.left (by assumption)) (And.left (And.right (by assumption))) (dg50 (by assumption))
    | exact Lf.eqN (And.left (by assumption)) (And.left (And.right (by assumption)))
    | exact Lf.neq (And.left (by assumption)) (dg50 (by assumption))
    | exact Lf.rel (And.left (by assumption)) (And.left (And.right (by assumption))) (dg50 (by assumption)) (by assumption)
    | exact Lf.num (And.left (by assumption)) (And.left (And.right (by assumption)))
    | exact Lf.zero (And.left (by assumption)) (And.left (And.right (by assumption)))
    | fail "Lf"
theorem C_leaf {P : Addr} {k kind : Nat} {t : Tok} {Q : Value → Shared → Prop} (G : Gd w g) (S : St g W s.heap) (hW : ∀ x ∈ ([P] : List Addr), x ∈ W) (hh : A.handled = none) (hd : A.depth + 12 < recursionLimit) (x : PenOk pc s.heap P k) (hk : k < 190)
    (h : ∀ a l dv us d b h' tk, s.heap.get? l = none → Keep2 [P] s.heap h' → PenOk pc h' P (k + 3) → h'.get? a = some (tupO [.ref l, dv, .bool b]) → TokL h' l us → At h' dv d → Lf us d b → Q (.ref a) { s with heap := h', toks := tk }) : wpAny (MM w) A (call (.ref 719) [.ref P, .int (kind : Int) t]) Q E s :=
  C_leafK G S hW hh hd x hk fun a l dv us d b h' tk n k po e t at_ lf _ => h a l dv us d b h' tk n k po e t at_ lf
abbrev brk (us : List Tx) : List Tx := [sg (ofString "(")] ++ us ++ [sg (ofString ")")]
inductive Lc : Nat → List Tx → PyData → Bool → Prop
  | leaf {n : Nat} {us : List Tx} {d : PyData} {b : Bool} : Lf us d b → Lc n us d b
  | not {n : Nat} {us : List Tx} {d : PyData} {b : Bool} : Lc n us d b → Lc (n + 1) ([wd (ofString "NOT")] ++ brk us) (.tuple [.str (ofString "not"), d]) false
  | and {n : Nat} {us us2 : List Tx} {d d2 : PyData} {b b2 : Bool} : Lc n us d b → Lc n us2 d2 b2 → Lc (n + 1) (brk us ++ [wd (ofString "AND")] ++ brk us2) (.tuple [.str (ofString "and"), d, d2]) (b && b2)
  | or {n : Nat} {us us2 : List Tx} {d d2 : PyData} {b b2 : Bool} : Lc n us d b → Lc n us2 d2 b2 → Lc (n + 1) (brk us ++ [wd (ofString "OR")] ++ brk us2) (.tuple [.str (ofString "or"), d, d2]) false
theorem Lf.len {us : List Tx} {d : PyData} {b : Bool} (x : Lf us d b) : us.length ≤ 4 := by cases x <;> simp
def lcLen : Nat → Nat | 0 => 4 | n + 1 => 2 * lcLen n + 5
theorem lcLen_pos (n : Nat) : 4 ≤ lcLen n := by induction n with | zero => exact Nat.le_refl _ | succ n ih => show 4 ≤ 2 * lcLen n + 5; omega
theorem Lc.len {n : Nat} {us : List Tx} {d : PyData} {b : Bool} (x : Lc n us d b) : us.length ≤ lcLen n := by
  induction x with
  | @leaf n _ _ _ h => have := h.len; have := lcLen_pos n; omega
  | not _ ih => simp [lcLen] <;> omega
  | and _ _ ih ih2 => simp [lcLen] <;> omega
  | or _ _ ih ih2 => simp [lcLen] <;> omega
def CondAt (h : Heap) (a l : Addr) (dv : Value) (us : List Tx) (d : PyData) (b : Bool) : Prop := h.get? a = some (tupO [.ref l, dv, .bool b]) ∧ TokL h l us ∧ At h dv d
theorem CondAt.go0 {h h' : Heap} {a l : Addr} {dv : Value} {us : List Tx} {d : PyData} {b : Bool} (k : Keep2 [] h h') (x : CondAt h a l dv us d b) : CondAt h' a l dv us d b := ⟨k.keep _ _ x.1 List.not_mem_nil, x.2.1.go k List.not_mem_nil, x.2.2.go k⟩
theorem CondAt.sto {h h' : Heap} {a l : Addr} {dv : Value} {us : List Tx} {d : PyData} {b : Bool} {h0 : Heap} {L : Addr} {m : PySem.Str → Option Value} (k : Keep2 [L] h h') (C : Cx g W h0 L m h) (x : CondAt h a l dv us d b) : CondAt h' a l dv us d b := ⟨k.stab _ _ (rfl : _ = _) x.1, x.2.1.sto k C, x.2.2.go k⟩
theorem CondAt.pen {h h' : Heap} {a l P : Addr} {dv : Value} {us : List Tx} {d : PyData} {b : Bool} (k : Keep2 [P] h h') (x : CondAt h a l dv us d b) (n : l ≠ P) : CondAt h' a l dv us d b := ⟨k.stab _ _ (rfl : _ = _) x.1, x.2.1.go k (nin1 n), x.2.2.go k⟩
theorem tup_at {value slice : PySem.Expr} {a : Addr} {vs : List Value} {v : Value} {j : Nat} {u : Tok} {Q : Value → Shared → Prop} (e : s.heap.get? a = some (tupO vs)) (hj : vs[j]? = some v) (hz : vs.length < 100) (h : Q v s)
    (hs : subscripted slice false (.ref a) (.int (j : Int) u) = operate [.ref a, .int (j : Int) u] (getItem (.ref a) (.int (j : Int) u)) := by with_unfolding_all rfl) : wpAny (MM w) A (subscriptTail value slice (.ref a) (.int (j : Int) u)) Q E s := by
  have lj : j < vs.length := by obtain ⟨z, _⟩ := List.getElem?_eq_some_iff.mp hj; exact z
  refine item_tupleT (j := j) (⟨_, e, rfl, _, rfl⟩ : IsTup s.heap a vs.toArray) (by omega) (by omega) ?_ (by simpa using hj) h hs
  unfold seqIndex?
  have : ¬ ((j : Int) < 0) := by omega
  simp [this] <;> omega
theorem cond0 {value slice : PySem.Expr} {a l : Addr} {dv : Value} {us : List Tx} {d : PyData} {b : Bool} {u : Tok} {Q : Value → Shared → Prop} (x : CondAt s.heap a l dv us d b) (h : Q (.ref l) s) (hs : subscripted slice false (.ref a) (.int 0 u) = operate [.ref a, .int 0 u] (getItem (.ref a) (.int 0 u)) := by with_unfolding_all rfl) : wpAny (MM w) A (subscriptTail value slice (.ref a) (.int 0 u)) Q E s := tup_at (j := 0) x.1 rfl (by simp) h hs
theorem cond1 {value slice : PySem.Expr} {a l : Addr} {dv : Value} {us : List Tx} {d : PyData} {b : Bool} {u : Tok} {Q : Value → Shared → Prop} (x : CondAt s.heap a l dv us d b) (h : Q dv s) (hs : subscripted slice false (.ref a) (.int 1 u) = operate [.ref a, .int 1 u] (getItem (.ref a) (.int 1 u)) := by with_unfolding_all rfl) : wpAny (MM w) A (subscriptTail value slice (.ref a) (.int 1 u)) Q E s := tup_at (j := 1) x.1 rfl (by simp) h hs
theorem cond2 {value slice : PySem.Expr} {a l : Addr} {dv : Value} {us : List Tx} {d : PyData} {b : Bool} {u : Tok} {Q : Value → Shared → Prop} (x : CondAt s.heap a l dv us d b) (h : Q (.bool b) s) (hs : subscripted slice false (.ref a) (.int 2 u) = operate [.ref a, .int 2 u] (getItem (.ref a) (.int 2 u)) := by with_unfolding_all rfl) : wpAny (MM w) A (subscriptTail value slice (.ref a) (.int 2 u)) Q E s := tup_at (j := 2) x.1 rfl (by simp) h hs
theorem said96 : True := by
  k_with "m:ca" => (guard_expr on5 =ₛ on5; first | assumption | exact CondAt.go0 ‹_› (by walk_at "ca") | exact CondAt.sto ‹_› ‹_› (by walk_at "ca") | exact CondAt.pen ‹_› (by walk_at "ca") ‹_› | fail "ca")
  k_with "m:tl" => (guard_expr on5 =ₛ on5; first | assumption | exact TokL.go ‹_› (by walk_at "tl") List.not_mem_nil | exact TokL.sto ‹_› ‹_› (by walk_at "tl") | exact TokL.go ‹_› (by walk_at "tl") (nin1 (by first | assumption | exact Ne.symm ‹_›)) | fail "tl")
  k_with "m:subscriptTail" => (guard_expr on5 =ₛ on5; (walk_plain_pass; first
      | ((with_reducible show wpAny _ _ (subscriptTail _ _ _ (Value.int 0 _)) _ _ _); refine cond0 (by walk_at "ca") ?_)
      | ((with_reducible show wpAny _ _ (subscriptTail _ _ _ (Value.int 1 _)) _ _ _); refine cond1 (by walk_at "ca") ?_)
      | ((with_reducible show wpAny _ _ (subscriptTail _ _ _ (Value.int 2 _)) _ _ _); refine cond2 (by walk_at "ca") ?_)
      | fail "cond"))
  k_with "m:call ref" => (guard_expr on5 =ₛ on5; (walk_plain_pass; ((with_reducible show wpAny _ _ (call (Value.ref 688) [_, Value.int 5 _]) _ _ _); (refine C_draw (many := 5) ‹_› (Cx.st ‹_›) (by walk_at "sm") ‹_› (by walk_at "dp") (by walk_at "po") (by walk_at "om") (by walk_at "om") (by walk_at "om") ?_; intro dₘ uₘ hₘ tkₘ ldₘ kₘ poₘ; have Cₘ := Cx.gs ‹_› kₘ; try dsimp only))))
  k_with "m:call ref" => (guard_expr on5 =ₛ on5; (walk_plain_pass; ((with_reducible show wpAny _ _ (call (Value.ref 719) _) _ _ _); (refine C_leaf ‹_› (Cx.st ‹_›) (by walk_at "sm") ‹_› (by walk_at "dp") (by walk_at "po") (by walk_at "om") ?_; intro aₘ lₘ dvₘ usₘ dₘ bₘ hₘ tkₘ nₘ kₘ poₘ eₘ tₘ atₘ lfₘ; have zₘ := Cx.none_of ‹_› nₘ; have npₘ := ne_pen nₘ (by walk_at "po"); have caₘ : CondAt hₘ aₘ lₘ dvₘ usₘ dₘ bₘ := ⟨eₘ, tₘ, atₘ⟩; have Cₘ := Cx.gs ‹_› kₘ; try dsimp only))))
  k_with "m:call ref" => (guard_expr on5 =ₛ on5; (walk_plain_pass; ((with_reducible show wpAny _ _ (call (Value.ref 700) _) _ _ _); (first | ((with_reducible show wpAny _ _ (call (Value.ref 700) [Value.str (ofString "NOT") _]) _ _ _); refine C_words (ws := [ofString "NOT"]) ‹_› (Cx.st ‹_›) ‹_› (by walk_at "dp") (by kernel_rfl!) (by decide) (by kernel_rfl!) (by decide) ?_) | ((with_reducible show wpAny _ _ (call (Value.ref 700) [Value.str (ofString "AND") _]) _ _ _); refine C_words (ws := [ofString "AND"]) ‹_› (Cx.st ‹_›) ‹_› (by walk_at "dp") (by kernel_rfl!) (by decide) (by kernel_rfl!) (by decide) ?_) | ((with_reducible show wpAny _ _ (call (Value.ref 700) [Value.str (ofString "OR") _]) _ _ _); refine C_words (ws := [ofString "OR"]) ‹_› (Cx.st ‹_›) ‹_› (by walk_at "dp") (by kernel_rfl!) (by decide) (by kernel_rfl!) (by decide) ?_) | fail "words"); (intro aₘ hₘ tkₘ nₘ kₘ lₘ; have zₘ := Cx.none_of ‹_› nₘ; (first | have npₘ := ne_pen nₘ (by walk_at "po") | skip); have Cₘ := Cx.gs ‹_› kₘ; try dsimp only))))
  k_with "m:call ref" => (guard_expr on5 =ₛ on5; (walk_plain_pass; ((with_reducible show wpAny _ _ (call (Value.ref 733) _) _ _ _); (refine C_bracket ‹_› (Cx.st ‹_›) (by walk_at "dp") (by walk_at "tl") (by first | omega | (have := Lc.len ‹_›; omega)) ?_; intro aₘ hₘ tkₘ nₘ kₘ lₘ; have zₘ := Cx.none_of ‹_› nₘ; (first | have npₘ := ne_pen nₘ (by walk_at "po") | skip); have Cₘ := Cx.gs ‹_› kₘ; try dsimp only))))
  trivial
theorem cond_end {P a l : Addr} {k j n c : Nat} {dv : Value} {us : List Tx} {d : PyData} {b : Bool} {h' : Heap} {tk : Nat} {Q : Value → Shared → Prop} (h : ∀ a l dv us d b h' tk, s.heap.get? l = none → Keep2 [P] s.heap h' → PenOk pc h' P (k + c) → h'.get? a = some (tupO [.ref l, dv, .bool b]) → TokL h' l us → At h' dv d → Lc n us d b → Q (.ref a) { s with heap := h', toks := tk })
    (e : h'.get? a = some (tupO [.ref l, dv, .bool b])) (tl : TokL h' l us) (at_ : At h' dv d) (lf : Lc n us d b) (fr : s.heap.get? l = none) (kk : Keep2 [P] s.heap h') (po : PenOk pc h' P j) (hj : j ≤ k + c) : Q (.ref a) { s with heap := h', toks := tk } := h a l dv us d b h' tk fr kk (po.mono hj) e tl at_ lf
def CondC (n c : Nat) : Prop := ∀ {w : World} {A : Around} {E : Value → Shared → Prop} {s : Shared} {g : Heap} {W : List Addr} {P pc : Addr} {k most : Nat} {t t2 : Tok} {Q : Value → Shared → Prop} (_ : Gd w g) (_ : St g W s.heap) (_ : ∀ x ∈ ([P] : List Addr), x ∈ W) (_ : A.handled = none) (_ : A.depth + 14 + 2 * n < recursionLimit) (_ : PenOk pc s.heap P k) (_ : k + c < 180) (_ : 0 < most) (_ : most ≤ 8)
  (_ : ∀ a l dv us d b h' tk, s.heap.get? l = none → Keep2 [P] s.heap h' → PenOk pc h' P (k + c) → h'.get? a = some (tupO [.ref l, dv, .bool b]) → TokL h' l us → At h' dv d → Lc n us d b → Q (.ref a) { s with heap := h', toks := tk }), wpAny (MM w) A (call (.ref 726) [.ref P, .int (n : Int) t, .int (most : Int) t2]) Q E s
theorem C_cond0 {P : Addr} {k most n c : Nat} {t t2 : Tok} {Q : Value → Shared → Prop} (G : Gd w g) (S : St g W s.heap) (hW : ∀ x ∈ ([P] : List Addr), x ∈ W) (hh : A.handled = none) (hd : A.depth + 14 + 2 * 0 < recursionLimit) (x : PenOk pc s.heap P k) (hk : k + 4 < 180) (hm : 0 < most) (hm2 : most ≤ 8)
    (h : ∀ a l dv us d b h' tk, s.heap.get? l = none → Keep2 [P] s.heap h' → PenOk pc h' P (k + 4) → h'.get? a = some (tupO [.ref l, dv, .bool b]) → TokL h' l us → At h' dv d → Lc 0 us d b → Q (.ref a) { s with heap := h', toks := tk }) : wpAny (MM w) A (call (.ref 726) [.ref P, .int ((0 : Nat) : Int) t, .int (most : Int) t2]) Q E s := by
  w_top off
  have S1 : St g [P] s.heap := S.less hW
  refine enterN (W := [P]) [("pen", .ref P), ("depth", .int ((0 : Nat) : Int) t), ("most", .int (most : Int) t2)] G S1 ((fn_at G S (f726 w)).trans rfl) (by kernel_rfl) (by walk_at "dq") (BindsTo.of_eq rfl) (locs rfl) ?_ (by rfl)
  intro L h₁ tk C nL k0
  have pL : P ≠ L := ne_of_live x.live nL
  have x1 : PenOk pc h₁ P k := x.go0 (Keep2.all (W := []) k0)
  repeat walk1
  all_goals try dsimp only
  all_goals (with_reducible show Q _ _)
  all_goals exact cond_end h (by assumption) (by walk_at "tl") (by walk_at "at") (.leaf (by assumption)) (And.left (by assumption)) (Cx.keep (by assumption) nL) (by walk_at "po") (by omega)
theorem dp14 {e : Env} {n : Nat} (h : A.depth + 14 + 2 * (n + 1) < recursionLimit) : (A.deeper e).depth + 14 + 2 * n < recursionLimit := by show A.depth + 1 + 14 + 2 * n < _; omega
structure CRec where
  a : Addr
  l : Addr
  dv : Value
  us : List Tx
  d : PyData
  b : Bool
structure CAs (h : Heap) (P : Addr) (cs : List CRec) : Prop where
  all : ∀ x ∈ cs, CondAt h x.a x.l x.dv x.us x.d x.b ∧ x.l ≠ P
def Side (P : Addr) (h : Heap) (X : List Addr) : Prop := X = [] ∨ X = [P] ∨ ∃ L m, X = [L] ∧ h.Ns L m
theorem CAs.go {h h' : Heap} {P : Addr} {X : List Addr} {cs : List CRec} (k : Keep2 X h h') (x : CAs h P cs) (sd : Side P h X) : CAs h' P cs := ⟨fun y q => by
  obtain ⟨⟨e, ⟨vs, n, e1, i⟩, t⟩, np⟩ := x.all y q
  refine ⟨⟨k.stab _ _ (rfl : _ = _) e, ⟨vs, n, k.keep _ _ e1 fun z => ?_, i.go k⟩, t.go k⟩, np⟩
  rcases sd with rfl | rfl | ⟨L, m, rfl, hn⟩
  · cases z
  · exact np (List.mem_singleton.mp z)
  · exact list_ne_L (list_at e1) hn (List.mem_singleton.mp z)⟩
theorem CAs.nil {h : Heap} {P : Addr} : CAs h P [] := ⟨fun _ q => nomatch q⟩
theorem CAs.add {h : Heap} {P a l : Addr} {dv : Value} {us : List Tx} {d : PyData} {b : Bool} {cs : List CRec} (x : CAs h P cs) (c : CondAt h a l dv us d b) (n : l ≠ P) : CAs h P (⟨a, l, dv, us, d, b⟩ :: cs) := ⟨fun y q => by
  rcases List.mem_cons.mp q with rfl | q
  · exact ⟨c, n⟩
  · exact x.all y q⟩
theorem CAs.ca {h : Heap} {P a l : Addr} {dv : Value} {us : List Tx} {d : PyData} {b : Bool} {cs : List CRec} (x : CAs h P cs) (m : (⟨a, l, dv, us, d, b⟩ : CRec) ∈ cs) : CondAt h a l dv us d b := (x.all _ m).1
theorem CAs.at_ {h : Heap} {P a l : Addr} {dv : Value} {us : List Tx} {d : PyData} {b : Bool} {cs : List CRec} (x : CAs h P cs) (m : (⟨a, l, dv, us, d, b⟩ : CRec) ∈ cs) : At h dv d := (x.all _ m).1.2.2
theorem CAs.tk_ {h : Heap} {P a l : Addr} {dv : Value} {us : List Tx} {d : PyData} {b : Bool} {cs : List CRec} (x : CAs h P cs) (m : (⟨a, l, dv, us, d, b⟩ : CRec) ∈ cs) : TokL h l us := (x.all _ m).1.2.1
theorem said97 : True := by
  k_with "m:side" => (guard_expr on5 =ₛ on5; first | exact .inl rfl | exact .inr (.inl rfl) | exact .inr (.inr ⟨_, _, rfl, Cx.ns ‹_›⟩) | fail "side")
  k_with "m:more" => (guard_expr on5 =ₛ on5; (first | have csₘ := CAs.go ‹_› ‹_› (by walk_at "side") | skip))
  k_with "m:ca" => (guard_expr on5 =ₛ on5; exact CAs.ca ‹_› (by walk_at "mem"))
  k_with "m:tl" => (guard_expr on5 =ₛ on5; first | exact CAs.tk_ ‹_› (by walk_at "mem") | assumption | exact TokL.go ‹_› (by walk_at "tl") List.not_mem_nil | exact TokL.sto ‹_› ‹_› (by walk_at "tl") | exact TokL.go ‹_› (by walk_at "tl") (nin1 (by first | assumption | exact Ne.symm ‹_›)) | fail "tl")
  k_with "m:atc" => (guard_expr on5 =ₛ on5; first | exact Reads.str _ _ | exact Reads.bool _ | exact CAs.at_ ‹_› (by walk_at "mem") | assumption | fail "atc")
  k_with "m:atsc" => (guard_expr on5 =ₛ on5; first | exact ReadsAll.nil | exact At.cons (by walk_at "atc") (by walk_at "atsc") | fail "atsc")
  k_with "m:newTuple" => (guard_expr on5 =ₛ on5; (walk_plain_pass; (refine new_tuple ?_; intro aₘ hₘ kₘ eₘ; have Cₘ := Cx.gs ‹_› kₘ; (have csₘ := CAs.go kₘ ‹_› (by walk_at "side")); (first | have tₘ := At.tup eₘ (by walk_at "atsc") | skip); try dsimp only)))
  k_with "m:newList" => (guard_expr on5 =ₛ on5; (walk_plain_pass; (refine one_tok (by walk_at "at") ?_; intro aₘ hₘ nₘ kₘ lₘ; have zₘ := Cx.none_of ‹_› nₘ; have Cₘ := Cx.gs ‹_› kₘ; (have csₘ := CAs.go kₘ ‹_› (by walk_at "side")); try dsimp only)))
  k_with "m:binaryOp Add ref ref" => (guard_expr on5 =ₛ on5; (walk_plain_pass; (refine cat_toks (by walk_at "tl") (by walk_at "tl") (by simp <;> omega) ?_; intro aₘ hₘ nₘ kₘ lₘ; have zₘ := Cx.none_of ‹_› nₘ; have Cₘ := Cx.gs ‹_› kₘ; (have csₘ := CAs.go kₘ ‹_› (by walk_at "side")); try dsimp only)))
  k_with "m:call ref" => (guard_expr on5 =ₛ on5; (walk_plain_pass; ((with_reducible show wpAny _ _ (call (Value.ref 700) _) _ _ _); ((with_reducible show wpAny _ _ (call (Value.ref 700) [Value.str (ofString "NOT") _]) _ _ _); refine C_words (ws := [ofString "NOT"]) ‹_› (Cx.st ‹_›) ‹_› (by walk_at "dp") (by kernel_rfl!) (by decide) (by kernel_rfl!) (by decide) ?_); (intro aₘ hₘ tkₘ nₘ kₘ lₘ; have zₘ := Cx.none_of ‹_› nₘ; have Cₘ := Cx.gs ‹_› kₘ; (have csₘ := CAs.go kₘ ‹_› (by walk_at "side")); try dsimp only))))
  k_with "m:call ref" => (guard_expr on5 =ₛ on5; (walk_plain_pass; ((with_reducible show wpAny _ _ (call (Value.ref 733) _) _ _ _); (refine C_bracket ‹_› (Cx.st ‹_›) (by walk_at "dp") (by walk_at "tl") (by walk_at "om") ?_; intro aₘ hₘ tkₘ nₘ kₘ lₘ; have zₘ := Cx.none_of ‹_› nₘ; have Cₘ := Cx.gs ‹_› kₘ; (have csₘ := CAs.go kₘ ‹_› (by walk_at "side")); try dsimp only))))
  k_with "m:call ref" => (guard_expr on5 =ₛ on5; (walk_plain_pass; ((with_reducible show wpAny _ _ (call (Value.ref 688) [_, Value.int 5 _]) _ _ _); (refine C_draw (many := 5) ‹_› (Cx.st ‹_›) (by walk_at "sm") ‹_› (by walk_at "dp") (by walk_at "po") (by walk_at "om") (by walk_at "om") (by walk_at "om") ?_; intro dₘ uₘ hₘ tkₘ ldₘ kₘ poₘ; have Cₘ := Cx.gs ‹_› kₘ; (have csₘ := CAs.go kₘ ‹_› (by walk_at "side")); try dsimp only))))
  trivial
theorem cond_call {n c : Nat} {P : Addr} {k most : Nat} {t t2 : Tok} {Q : Value → Shared → Prop} (ih : CondC n c) (G : Gd w g) (S : St g W s.heap) (hW : ∀ x ∈ ([P] : List Addr), x ∈ W) (hh : A.handled = none) (hd : A.depth + 14 + 2 * n < recursionLimit) (x : PenOk pc s.heap P k) (hk : k + c < 180) (hm : 0 < most) (hm2 : most ≤ 8)
  (h : ∀ a l dv us d b h' tk, s.heap.get? l = none → Keep2 [P] s.heap h' → PenOk pc h' P (k + c) → h'.get? a = some (tupO [.ref l, dv, .bool b]) → TokL h' l us → At h' dv d → Lc n us d b → Q (.ref a) { s with heap := h', toks := tk }) : wpAny (MM w) A (call (.ref 726) [.ref P, .int (((n + 1 : Nat) : Int) - 1) t, .int (most : Int) t2]) Q E s := by
  rw [show (((n + 1 : Nat) : Int) - 1) = (n : Int) by omega]
  exact ih G S hW hh hd x hk hm hm2 h
theorem said98 : True := by
  k_with "m:call ref" => (guard_expr on5 =ₛ on5; (walk_plain_pass; ((with_reducible show wpAny _ _ (call (Value.ref 726) _) _ _ _); (refine cond_call ‹_› ‹_› (Cx.st ‹_›) (by walk_at "sm") ‹_› (dp14 ‹_›) (by walk_at "po") (by walk_at "om") (by walk_at "om") (by walk_at "om") ?_; intro aₘ lₘ dvₘ usₘ dₘ bₘ hₘ tkₘ nₘ kₘ poₘ eₘ tₘ atₘ lcₘ; have lenₘ := Lc.len lcₘ; have zₘ := Cx.none_of ‹_› nₘ; have npₘ := ne_pen nₘ (by walk_at "po"); have caₘ : CondAt hₘ aₘ lₘ dvₘ usₘ dₘ bₘ := ⟨eₘ, tₘ, atₘ⟩; have Cₘ := Cx.gs ‹_› kₘ; (have csₘ := CAs.add (CAs.go kₘ ‹_› (by walk_at "side")) caₘ npₘ); try dsimp only))))
  trivial
theorem lower_and {t : Tok} {Q : Value → Shared → Prop} (h : Q (.str (ofString "and") s.toks) { s with toks := s.toks + 1 }) : wpAny (MM w) A (call (.builtin "str.lower") [.str (ofString "AND") t]) Q E s :=
  SCL.lower (by decide) fun _ => by
    have e : Txt.lower (ofString "AND") = ofString "and" := by kernel_rfl
    rw [e]; exact h
theorem lower_or {t : Tok} {Q : Value → Shared → Prop} (h : Q (.str (ofString "or") s.toks) { s with toks := s.toks + 1 }) : wpAny (MM w) A (call (.builtin "str.lower") [.str (ofString "OR") t]) Q E s :=
  SCL.lower (by decide) fun _ => by
    have e : Txt.lower (ofString "OR") = ofString "or" := by kernel_rfl
    rw [e]; exact h
theorem Lc.and' {n : Nat} {us us2 : List Tx} {d d2 : PyData} {b b2 b3 : Bool} (x : Lc n us d b) (y : Lc n us2 d2 b2) (e : (b && b2) = b3) : Lc (n + 1) (brk us ++ [wd (ofString "AND")] ++ brk us2) (.tuple [.str (ofString "and"), d, d2]) b3 := e ▸ Lc.and x y
def Jn (x : PySem.Str) : Prop := x = ofString "OR" ∨ x = ofString "AND"
theorem Jn.split {x : PySem.Str} (h : Jn x) : Txt.split x (ofString " ") = [x] := by rcases h with rfl | rfl <;> kernel_rfl
theorem Jn.len {x : PySem.Str} (h : Jn x) : x.length < 1000 := by rcases h with rfl | rfl <;> decide
theorem Jn.ne {x : PySem.Str} (h : Jn x) : (x == ofString "") = false := by rcases h with rfl | rfl <;> kernel_rfl
theorem Lc.two {n : Nat} {x : PySem.Str} {us us2 : List Tx} {d d2 : PyData} {b b2 b3 : Bool} (h : Jn x) (p : Lc n us d b) (q : Lc n us2 d2 b2) (e : b3 = ((x == ofString "AND") && (b && b2))) : Lc (n + 1) (brk us ++ [wd x] ++ brk us2) (.tuple [.str (Txt.lower x), d, d2]) b3 := by
  subst e
  rcases h with rfl | rfl
  · rw [show Txt.lower (ofString "OR") = ofString "or" by kernel_rfl, show (ofString "OR" == ofString "AND") = false by kernel_rfl]
    exact Lc.or p q
  · rw [show Txt.lower (ofString "AND") = ofString "and" by kernel_rfl, show (ofString "AND" == ofString "AND") = true by kernel_rfl]
    exact (show Lc _ _ _ (b && b2) from Lc.and p q)
theorem lower_w {x : PySem.Str} {t : Tok} {Q : Value → Shared → Prop} (j : Jn x) (h : Q (.str (Txt.lower x) s.toks) { s with toks := s.toks + 1 }) : wpAny (MM w) A (call (.builtin "str.lower") [.str x t]) Q E s :=
  SCL.lower (Nat.le_trans (Nat.le_of_lt j.len) (by decide)) fun _ => h
theorem cutS {M : Model} {st : Stmt} {env : Env} {R : Flow → Shared → Prop} (h1 : ∀ tk, Opq R .next { s with toks := tk }) (h2 : (∀ tk, Opq R .next { s with toks := tk }) → wpAny M A (exec st env) (Opq R) E s) : wpAny M A (exec st env) (Opq R) E s := h2 h1
theorem cutW {M : Model} {e : PySem.Expr} {env : Env} {Q : Value → Shared → Prop} (h1 : ∀ x t tk, Jn x → Q (.str x t) { s with toks := tk }) (h2 : ∀ P : Value → Shared → Prop, (∀ x t tk, Jn x → P (.str x t) { s with toks := tk }) → wpAny M A (eval e env) P E s) : wpAny M A (eval e env) Q E s := h2 Q h1
theorem said99 : True := by
  k_with "m:call builtin:str.lower" => (guard_expr on5 =ₛ on5; (walk_plain_pass; (try dsimp only); refine lower_w ‹_› ?_))
  k_with "m:call ref" => (guard_expr on5 =ₛ on5; (walk_plain_pass; ((with_reducible show wpAny _ _ (call (Value.ref 700) _) _ _ _); (refine C_words ‹_› (Cx.st ‹_›) ‹_› (by walk_at "dp") (Jn.split ‹_›) (Jn.len ‹_›) (Jn.ne ‹_›) (Nat.le_of_ble_eq_true rfl) ?_; (intro aₘ hₘ tkₘ nₘ kₘ lₘ; have zₘ := Cx.none_of ‹_› nₘ; have Cₘ := Cx.gs ‹_› kₘ; (have csₘ := CAs.go kₘ ‹_› (by walk_at "side")); try dsimp only)))))
  trivial
theorem C_condS {P : Addr} {k most n c : Nat} {t t2 : Tok} {Q : Value → Shared → Prop} (G : Gd w g) (S : St g W s.heap) (hW : ∀ x ∈ ([P] : List Addr), x ∈ W) (hh : A.handled = none) (hd : A.depth + 14 + 2 * (n + 1) < recursionLimit) (ih : CondC n c) (hc : 4 ≤ c) (hn : lcLen n ≤ 40) (x : PenOk pc s.heap P k) (hk : k + (2 * c + 1) < 180) (hm : 0 < most) (hm2 : most ≤ 8)
    (h : ∀ a l dv us d b h' tk, s.heap.get? l = none → Keep2 [P] s.heap h' → PenOk pc h' P (k + (2 * c + 1)) → h'.get? a = some (tupO [.ref l, dv, .bool b]) → TokL h' l us → At h' dv d → Lc (n + 1) us d b → Q (.ref a) { s with heap := h', toks := tk }) : wpAny (MM w) A (call (.ref 726) [.ref P, .int ((n + 1 : Nat) : Int) t, .int (most : Int) t2]) Q E s := by
  w_top off
  have S1 : St g [P] s.heap := S.less hW
  refine enterN (W := [P]) [("pen", .ref P), ("depth", .int ((n + 1 : Nat) : Int) t), ("most", .int (most : Int) t2)] G S1 ((fn_at G S (f726 w)).trans rfl) (by kernel_rfl) (by walk_at "dq") (BindsTo.of_eq rfl) (locs rfl) ?_ (by rfl)
  intro L h₁ tk C nL k0
  have pL : P ≠ L := ne_of_live x.live nL
  have x1 : PenOk pc h₁ P k := x.go0 (Keep2.all (W := []) k0)
  have cs0 : CAs h₁ P [] := CAs.nil
  repeat ((fail_if_success (with_reducible show wpAny _ _ (exec (Stmt.If (PySem.Expr.BoolOp _ _ _) _ _ _) _) _ _ _)); walk1)
  all_goals first | (exfalso; omega) | skip
  all_goals (repeat ((fail_if_success (with_reducible show wpAny _ _ (exec (Stmt.If (PySem.Expr.BoolOp _ _ _) _ _ _) _) _ _ _)); walk1))
  all_goals first | (exfalso; omega) | skip
  all_goals (repeat ((fail_if_success (with_reducible show wpAny _ _ (exec (Stmt.If (PySem.Expr.BoolOp _ _ _) _ _ _) _) _ _ _)); walk1))
  all_goals first
    | with_reducible show Q _ _
    | (refine cutS (fun tk => ?_) fun nx => ?_)
  all_goals (repeat ((first | (fail_if_success (with_reducible show Opq _ Flow.next _)) | (fail_if_success have := nx)); (fail_if_success (with_reducible show wpAny _ _ (eval (PySem.Expr.IfExp _ _ _ _) _) _ _ _)); walk1))
  all_goals first | (with_reducible exact nx _) | (exfalso; omega) | skip
  all_goals (repeat ((first | (fail_if_success (with_reducible show Opq _ Flow.next _)) | (fail_if_success have := nx)); (fail_if_success (with_reducible show wpAny _ _ (eval (PySem.Expr.IfExp _ _ _ _) _) _ _ _)); walk1))
  all_goals first | (with_reducible exact nx _) | (exfalso; omega) | skip
  all_goals first
    | with_reducible show Q _ _
    | (refine cutW (fun y t tk j => ?_) fun P hp => ?_)
  all_goals (repeat walk1)
  all_goals first | (exact hp _ _ _ (.inl rfl)) | (exact hp _ _ _ (.inr rfl)) | (exfalso; omega) | skip
  all_goals (repeat walk1)
  all_goals first | (exact hp _ _ _ (.inl rfl)) | (exact hp _ _ _ (.inr rfl)) | (exfalso; omega) | skip
  all_goals (repeat walk1)
  all_goals first | (exact hp _ _ _ (.inl rfl)) | (exact hp _ _ _ (.inr rfl)) | (exfalso; omega) | skip
  all_goals (with_reducible show Q _ _)
  all_goals refine cond_end h (by assumption) (by first | assumption | walk_at "tl") (by first | assumption | exact CAs.at_ (by assumption) (by walk_at "mem") | exact At.go (by assumption) (by assumption)) ?_ (And.left (by assumption)) (Cx.keep (by assumption) nL) (by walk_at "po") (by omega)
  all_goals first
    | exact Lc.leaf (by assumption)
    | exact Lc.not (by assumption)
    | exact Lc.two (by assumption) (by assumption) (by assumption) (by simp_all)
    | fail "Lc"
end
theorem cond_base : CondC 0 4 := fun G S hW hh hd x hk hm hm2 h => C_cond0 (n := 0) (c := 0) G S hW hh hd x hk hm hm2 h
theorem cond_one : CondC 1 9 := fun G S hW hh hd x hk hm hm2 h => C_condS (n := 0) (c := 4) G S hW hh hd cond_base (by decide) (by decide) x hk hm hm2 h
theorem cond_two : CondC 2 19 := fun G S hW hh hd x hk hm hm2 h => C_condS (n := 1) (c := 9) G S hW hh hd cond_one (by decide) (by decide) x hk hm hm2 h
section
variable {ts us us2 : List Tx} {d d2 : PyData} {b b2 : Bool} {p q n : Nat}
def Sits (ts us : List Tx) (p : Nat) : Prop := ∀ i t, us[i]? = some t → ts[p + i]? = some t
theorem Sits.left (x : Sits ts (us ++ us2) p) : Sits ts us p := fun i t e => x i t (by rw [List.getElem?_append_left (List.getElem?_eq_some_iff.mp e).1]; exact e)
theorem Sits.right (x : Sits ts (us ++ us2) p) : Sits ts us2 (p + us.length) := fun i t e => by
  have := x (us.length + i) t (by rw [List.getElem?_append_right (by omega)]; simpa using e)
  rw [show p + us.length + i = p + (us.length + i) by omega]; exact this
theorem Sits.at0 {t : Tx} (x : Sits ts (t :: us) p) : ts[p]? = some t := x 0 t rfl
theorem Sits.at1 {t t1 : Tx} (x : Sits ts (t :: t1 :: us) p) : ts[p + 1]? = some t1 := x 1 t1 rfl
theorem Sits.at2 {t t1 t2 : Tx} (x : Sits ts (t :: t1 :: t2 :: us) p) : ts[p + 2]? = some t2 := x 2 t2 rfl
theorem Sits.at3 {t t1 t2 t3 : Tx} (x : Sits ts (t :: t1 :: t2 :: t3 :: us) p) : ts[p + 3]? = some t3 := x 3 t3 rfl
structure Ends (ts : List Tx) (q : Nat) : Prop where
  foll : ∃ t, Foll ts q t
  nand : tokIs ts q "word" "AND" = false
  nor : tokIs ts q "word" "OR" = false
  few : q < 2 ^ 29
theorem Lf.place {t : Tx} (x : Lf us d b) (s : Sits ts us p) (f : Foll ts (p + us.length) t) : Leaf ts p (p + us.length) d := by
  cases x with
  | done => exact .inl ⟨s.at0, ⟨t, f⟩, rfl, rfl⟩
  | @eqn x y v hx hd hv => exact .inr (.inl ⟨x, _, s.at0, hx, hd, ⟨s.at1, by kernel_rfl⟩, .inl ⟨_, p + 2, _, _, t, .inl ⟨s.at1, rfl⟩, by kernel_rfl, s.at2, .inr ⟨_, _, hv, rfl, rfl⟩, f, rfl, rfl⟩⟩)
  | @eqN x hx hd => exact .inr (.inl ⟨x, _, s.at0, hx, hd, ⟨s.at1, by kernel_rfl⟩, .inl ⟨_, p + 3, _, _, t, .inr ⟨s.at1, s.at2, rfl, rfl⟩, by kernel_rfl, s.at3, .inl ⟨_, .inr (.inr (.inl rfl)), rfl, rfl⟩, f, rfl, rfl⟩⟩)
  | @neq x y v hx hv => exact .inr (.inr ⟨y, v, _, s.at0, hv, ⟨s.at1, by kernel_rfl⟩, .inl ⟨_, p + 2, _, _, t, .inl ⟨s.at1, rfl⟩, by kernel_rfl, s.at2, .inl ⟨_, hx, rfl, rfl⟩, f, rfl, rfl⟩⟩)
  | @rel x y z v hx hd hv hy =>
    have hr : relS y = true := by
      simp only [List.mem_cons, List.not_mem_nil, or_false] at hy
      rcases hy with rfl | rfl | rfl | rfl <;> kernel_rfl
    have hf : follOk (sg y) = true := by
      simp only [List.mem_cons, List.not_mem_nil, or_false] at hy
      rcases hy with rfl | rfl | rfl | rfl <;> kernel_rfl
    exact .inr (.inl ⟨x, _, s.at0, hx, hd, ⟨s.at1, hf⟩, .inl ⟨_, p + 2, _, _, t, .inl ⟨s.at1, rfl⟩, hr, s.at2, .inr ⟨_, _, hv, rfl, rfl⟩, f, rfl, rfl⟩⟩)
  | @num x hx hd => exact .inr (.inl ⟨x, _, s.at0, hx, hd, ⟨s.at1, by kernel_rfl⟩, .inr (.inl ⟨s.at1, s.at2, rfl, rfl⟩)⟩)
  | @zero x hx hd => exact .inr (.inl ⟨x, _, s.at0, hx, hd, ⟨s.at1, by kernel_rfl⟩, .inr (.inr ⟨s.at1, s.at2, rfl, rfl⟩)⟩)
theorem nm_not {x : PySem.Str} (h : isNm x) : (wordOf (wd x) == ofString "NOT") = false := by
  rcases h with rfl | rfl | rfl | rfl | rfl <;> kernel_rfl
theorem Lf.head (x : Lf us d b) (s : Sits ts us p) : ∃ t, ts[p]? = some t ∧ (wordOf t == ofString "NOT") = false := by
  cases x with
  | done => exact ⟨_, s.at0, by kernel_rfl⟩
  | eqn hx _ _ => exact ⟨_, s.at0, nm_not hx⟩
  | eqN hx _ => exact ⟨_, s.at0, nm_not hx⟩
  | neq _ _ => exact ⟨_, s.at0, by kernel_rfl⟩
  | rel hx _ _ _ => exact ⟨_, s.at0, nm_not hx⟩
  | num hx _ => exact ⟨_, s.at0, nm_not hx⟩
  | zero hx _ => exact ⟨_, s.at0, nm_not hx⟩
theorem Lf.cd1 {t : Tx} (x : Lf us d b) (s : Sits ts us p) (f : Foll ts (p + us.length) t) : Cd ts 1 0 p (p + us.length) d := by
  obtain ⟨_, h0, h1⟩ := x.head s
  exact .plain (.leaf (x.place s f)) h0 h1
theorem brk_cd (s : Sits ts (brk us) p) (c : Ends ts (p + 1 + us.length) → Cd ts 2 n (p + 1) (p + 1 + us.length) d) (hq : p + us.length + 2 < 2 ^ 29) : Cd ts 0 (n + 1) p (p + (brk us).length) d := by
  have s1 : Sits ts ([sg (ofString "(")] ++ us) p := s.left
  have h0 : ts[p]? = some (sg (ofString "(")) := s1.left.at0
  have h1 : ts[p + 1 + us.length]? = some (sg (ofString ")")) := by
    have := s.right.at0
    simpa [Nat.add_assoc, Nat.add_comm, Nat.add_left_comm] using this
  have e : p + (brk us).length = p + 1 + us.length + 1 := by simp [brk]; omega
  rw [e]
  refine .br h0 (c ⟨⟨_, h1, by kernel_rfl⟩, (tok_of_some h1).trans (by kernel_rfl), (tok_of_some h1).trans (by kernel_rfl), by omega⟩) h1
theorem brk_head (s : Sits ts (brk us) p) : ts[p]? = some (sg (ofString "(")) := s.left.left.at0
theorem Lc.cd (x : Lc n us d b) : ∀ p, Sits ts us p → Ends ts (p + us.length) → Cd ts 2 n p (p + us.length) d := by
  induction x with
  | leaf h => intro p s e; obtain ⟨t, f⟩ := e.foll; exact .one (.up (h.cd1 s f) (Nat.zero_le _)) e.few e.nand e.nor
  | @not n us d b h ih =>
    intro p s e
    have sb : Sits ts (brk us) (p + 1) := s.right
    have hl : p + ([wd (ofString "NOT")] ++ brk us).length = p + 1 + (brk us).length := by simp; omega
    have hf := e.few
    rw [hl] at e hf ⊢
    have hb : (brk us).length = us.length + 2 := by simp [brk]
    refine .one (.not s.left.at0 (brk_head sb) (brk_cd sb (fun e' => ih _ ?_ e') (by omega))) hf e.nand e.nor
    have := sb.left.right
    simpa using this
  | @and n us us2 d d2 b b2 h h2 ih ih2 =>
    intro p s e
    have hb : (brk us).length = us.length + 2 := by simp [brk]
    have hb2 : (brk us2).length = us2.length + 2 := by simp [brk]
    have s1 : Sits ts (brk us) p := s.left.left
    have s2 : ts[p + (brk us).length]? = some (wd (ofString "AND")) := s.left.right.at0
    have s3 : Sits ts (brk us2) (p + (brk us).length + 1) := by
      have := s.right
      rw [List.length_append] at this
      simpa [Nat.add_assoc] using this
    have hl : p + (brk us ++ [wd (ofString "AND")] ++ brk us2).length = p + (brk us).length + 1 + (brk us2).length := by simp only [List.length_append, List.length_cons, List.length_nil]; omega
    have hf := e.few
    rw [hl] at e hf ⊢
    refine .and (.plain (brk_cd s1 (fun e' => ih _ ?_ e') (by omega)) (brk_head s1) (by kernel_rfl)) s2 (.plain (brk_cd s3 (fun e' => ih2 _ ?_ e') (by omega)) (brk_head s3) (by kernel_rfl)) hf e.nand e.nor
    · have := s1.left.right; simpa using this
    · have := s3.left.right; simpa using this
  | @or n us us2 d d2 b b2 h h2 ih ih2 =>
    intro p s e
    have hb : (brk us).length = us.length + 2 := by simp [brk]
    have hb2 : (brk us2).length = us2.length + 2 := by simp [brk]
    have s1 : Sits ts (brk us) p := s.left.left
    have s2 : ts[p + (brk us).length]? = some (wd (ofString "OR")) := s.left.right.at0
    have s3 : Sits ts (brk us2) (p + (brk us).length + 1) := by
      have := s.right
      rw [List.length_append] at this
      simpa [Nat.add_assoc] using this
    have hl : p + (brk us ++ [wd (ofString "OR")] ++ brk us2).length = p + (brk us).length + 1 + (brk us2).length := by simp only [List.length_append, List.length_cons, List.length_nil]; omega
    have hf := e.few
    rw [hl] at e hf ⊢
    refine .or (.plain (brk_cd s1 (fun e' => ih _ ?_ e') (by omega)) (brk_head s1) (by kernel_rfl)) s2 (.plain (brk_cd s3 (fun e' => ih2 _ ?_ e') (by omega)) (brk_head s3) (by kernel_rfl)) (by omega) hf e.nand e.nor
    · have := s1.left.right; simpa using this
    · have := s3.left.right; simpa using this
theorem pair_cd (x : Lf us d b) (y : Lf us2 d2 b2) (s : Sits ts (us ++ [wd (ofString "AND")] ++ us2) p) (e : Ends ts (p + (us ++ [wd (ofString "AND")] ++ us2).length)) : Cd ts 2 0 p (p + (us ++ [wd (ofString "AND")] ++ us2).length) (.tuple [.str (ofString "and"), d, d2]) := by
  have s1 : Sits ts us p := s.left.left
  have s2 : ts[p + us.length]? = some (wd (ofString "AND")) := s.left.right.at0
  have s3 : Sits ts us2 (p + us.length + 1) := by
    have := s.right
    rw [List.length_append] at this
    simpa [Nat.add_assoc] using this
  have hl : p + (us ++ [wd (ofString "AND")] ++ us2).length = p + us.length + 1 + us2.length := by simp only [List.length_append, List.length_cons, List.length_nil]; omega
  have hf := e.few
  rw [hl] at e hf ⊢
  obtain ⟨t, f⟩ := e.foll
  exact .and (x.cd1 s1 ⟨s2, by kernel_rfl⟩) s2 (y.cd1 s3 f) hf e.nand e.nor
theorem KSpec.mono {w : World} {d : PyData} {b : Bool} {n m : Nat} (h : KSpec w d b n) (l : n ≤ m) : KSpec w d b m := by
  unfold KSpec at h ⊢
  intro A E s g W v Q G S a hd k
  exact h G S a (by omega) k
theorem Lf.key {w : World} (x : Lf us d b) : KSpec w d b 0 := by
  cases x with
  | done => exact K_named
  | eqn _ _ _ => exact K_rel (by simp)
  | eqN _ _ => exact K_rel (by simp)
  | neq _ _ => exact K_rel (by simp)
  | @rel _ y _ _ _ _ _ hy =>
    simp only [List.mem_cons, List.not_mem_nil, or_false] at hy
    rcases hy with rfl | rfl | rfl | rfl <;> exact K_rel (by simp)
  | num _ _ => exact K_other (by simp) (by kernel_rfl) (by kernel_rfl) (by kernel_rfl)
  | zero _ _ => exact K_other (by simp) (by kernel_rfl) (by kernel_rfl) (by kernel_rfl)
theorem Lc.key {w : World} (x : Lc n us d b) : KSpec w d b n := by
  induction x with
  | leaf h => exact KSpec.mono (n := 0) h.key (Nat.zero_le _)
  | not _ _ => exact KSpec.mono (n := 0) (K_other (by simp) (by kernel_rfl) (by kernel_rfl) (by kernel_rfl)) (Nat.zero_le _)
  | and _ _ ih ih2 => exact K_and ih ih2
  | or _ _ _ _ => exact KSpec.mono (n := 0) (K_other (by simp) (by kernel_rfl) (by kernel_rfl) (by kernel_rfl)) (Nat.zero_le _)
end
mutual
theorem eqv_self : ∀ d : PyData, d.canLay0 = true → PyData.eqv d d = true
  | .none, _ => rfl
  | .bool b, _ => by unfold PyData.eqv; exact beq_self_eq_true b
  | .int i, _ => by unfold PyData.eqv; exact beq_self_eq_true i
  | .str x, _ => by unfold PyData.eqv; exact beq_self_eq_true x
  | .list xs, h => by unfold PyData.eqv; exact eqvAll_self xs (by unfold PyData.canLay0 at h; exact h)
  | .tuple xs, h => by unfold PyData.eqv; exact eqvAll_self xs (by unfold PyData.canLay0 at h; exact h)
  | .dict _, h => by unfold PyData.canLay0 at h; cases h
theorem eqvAll_self : ∀ xs : List PyData, PyData.canLayAll0 xs = true → PyData.eqvAll xs xs = true
  | [], _ => by unfold PyData.eqvAll; rfl
  | x :: r, h => by
    unfold PyData.canLayAll0 at h
    have h2 := Bool.and_eq_true_iff.mp h
    unfold PyData.eqvAll
    rw [eqv_self x h2.1, eqvAll_self r h2.2]; rfl
end
section
variable {us : List Tx} {d : PyData} {b : Bool} {n : Nat}
def Sh (d : PyData) (n : Nat) : Prop := d.canLay0 = true ∧ d.depth ≤ n
theorem Sh.mono {m : Nat} (x : Sh d n) (l : n ≤ m) : Sh d m := ⟨x.1, Nat.le_trans x.2 l⟩
theorem Sh.none : Sh .none 0 := ⟨rfl, by unfold PyData.depth; exact Nat.le_refl _⟩
theorem Sh.int {i : Int} : Sh (.int i) 0 := ⟨rfl, by unfold PyData.depth; exact Nat.le_refl _⟩
theorem Sh.str {x : PySem.Str} (h : PyData.strOk x = true) : Sh (.str x) 0 := ⟨by unfold PyData.canLay0; exact h, by unfold PyData.depth; exact Nat.le_refl _⟩
theorem Sh.tuple {xs : List PyData} (h : ∀ x ∈ xs, Sh x n) : Sh (.tuple xs) (n + 1) := by
  have : ∀ xs : List PyData, (∀ x ∈ xs, Sh x n) → PyData.canLayAll0 xs = true ∧ PyData.depthAll xs ≤ n := by
    intro xs
    induction xs with
    | nil => intro _; exact ⟨by unfold PyData.canLayAll0; rfl, by unfold PyData.depthAll; exact Nat.zero_le _⟩
    | cons x r ih =>
      intro h
      obtain ⟨a, b⟩ := ih fun y q => h y (.tail _ q)
      obtain ⟨c, d⟩ := h x (.head _)
      exact ⟨by unfold PyData.canLayAll0; rw [c, a]; rfl, by unfold PyData.depthAll; exact Nat.max_le.mpr ⟨d, b⟩⟩
  obtain ⟨a, b⟩ := this xs h
  exact ⟨by unfold PyData.canLay0; exact a, by unfold PyData.depth; exact Nat.succ_le_succ b⟩
theorem sh_nil : ∀ x ∈ ([] : List PyData), Sh x n := fun _ q => nomatch q
theorem sh_cons {x : PyData} {xs : List PyData} (a : Sh x n) (h : ∀ y ∈ xs, Sh y n) : ∀ y ∈ x :: xs, Sh y n := fun y q => by
  rcases List.mem_cons.mp q with rfl | q
  · exact a
  · exact h y q
theorem ok_nm {x : PySem.Str} (h : isNm x) : PyData.strOk x = true := by
  rcases h with rfl | rfl | rfl | rfl | rfl <;> kernel_rfl
theorem sh_ref {x : PySem.Str} (h : PyData.strOk x = true) : Sh (refD x) 2 :=
  .tuple (sh_cons ((Sh.str (by kernel_rfl)).mono (Nat.zero_le _)) (sh_cons ((Sh.str h).mono (Nat.zero_le _)) (sh_cons (.tuple (n := 0) sh_nil) (sh_cons (.tuple (n := 0) sh_nil) (sh_cons (Sh.none.mono (Nat.zero_le _)) sh_nil)))))
theorem sh_num {v : Nat} : Sh (numD v) 2 :=
  .tuple (sh_cons ((Sh.str (by kernel_rfl)).mono (Nat.zero_le _)) (sh_cons (.tuple (n := 0) (sh_cons .int (sh_cons .int sh_nil))) sh_nil))
theorem sh_rel {y : PySem.Str} {a b : PyData} (h : PyData.strOk y = true) (ha : Sh a 2) (hb : Sh b 2) : Sh (relD y a b) 3 :=
  .tuple (sh_cons ((Sh.str (by kernel_rfl)).mono (Nat.zero_le _)) (sh_cons ((Sh.str h).mono (Nat.zero_le _)) (sh_cons ha (sh_cons hb sh_nil))))
theorem Lf.sh (x : Lf us d b) : Sh d 3 := by
  cases x with
  | done => exact .tuple (sh_cons ((Sh.str (by kernel_rfl)).mono (Nat.zero_le _)) (sh_cons (sh_ref (by kernel_rfl)) sh_nil))
  | eqn hx _ _ => exact sh_rel (by kernel_rfl) (sh_ref (ok_nm hx)) sh_num
  | eqN hx _ => exact sh_rel (by kernel_rfl) (sh_ref (ok_nm hx)) (sh_ref (by kernel_rfl))
  | neq hx _ => exact sh_rel (by kernel_rfl) sh_num (sh_ref (ok_nm hx))
  | @rel _ y _ _ hx _ _ hy =>
    have hk : PyData.strOk y = true := by
      simp only [List.mem_cons, List.not_mem_nil, or_false] at hy
      rcases hy with rfl | rfl | rfl | rfl <;> kernel_rfl
    exact sh_rel hk (sh_ref (ok_nm hx)) sh_num
  | num hx _ => exact .tuple (sh_cons ((Sh.str (by kernel_rfl)).mono (Nat.zero_le _)) (sh_cons ((Sh.str (by kernel_rfl)).mono (Nat.zero_le _)) (sh_cons (sh_ref (ok_nm hx)) sh_nil)))
  | zero hx _ => exact .tuple (sh_cons ((Sh.str (by kernel_rfl)).mono (Nat.zero_le _)) (sh_cons ((Sh.str (by kernel_rfl)).mono (Nat.zero_le _)) (sh_cons (sh_ref (ok_nm hx)) sh_nil)))
theorem Lc.sh (x : Lc n us d b) : Sh d (3 + n) := by
  induction x with
  | leaf h => exact h.sh.mono (by omega)
  | not _ ih => exact .tuple (sh_cons ((Sh.str (by kernel_rfl)).mono (Nat.zero_le _)) (sh_cons ih sh_nil))
  | and _ _ ih ih2 => exact .tuple (sh_cons ((Sh.str (by kernel_rfl)).mono (Nat.zero_le _)) (sh_cons ih (sh_cons ih2 sh_nil)))
  | or _ _ ih ih2 => exact .tuple (sh_cons ((Sh.str (by kernel_rfl)).mono (Nat.zero_le _)) (sh_cons ih (sh_cons ih2 sh_nil)))
structure Law (us : List Tx) (d : PyData) (b : Bool) (n : Nat) : Prop where
  cd : ∀ ts p, Sits ts us p → Ends ts (p + us.length) → Cd ts 2 n p (p + us.length) d
  key : ∀ w, KSpec w d b n
  sh : Sh d (3 + n)
  pos : 0 < us.length
  few : us.length ≤ 300
theorem Lf.pos (x : Lf us d b) : 0 < us.length := by cases x <;> simp
theorem Lc.pos (x : Lc n us d b) : 0 < us.length := by
  cases x with
  | leaf h => exact h.pos
  | _ => simp
theorem Lc.law (x : Lc n us d b) (l : lcLen n ≤ 300) : Law us d b n := ⟨fun _ => x.cd, fun _ => x.key, x.sh, x.pos, Nat.le_trans x.len l⟩
theorem Lf.law (x : Lf us d b) : Law us d b 0 := (Lc.leaf (n := 0) x).law (by decide)
theorem Lf.pair {us2 : List Tx} {d2 : PyData} {b2 : Bool} (x : Lf us d b) (y : Lf us2 d2 b2) : Law (us ++ [wd (ofString "AND")] ++ us2) (.tuple [.str (ofString "and"), d, d2]) (b && b2) 1 :=
  ⟨fun ts p s e => .up (pair_cd x y s e) (Nat.zero_le _), fun _ => K_and x.key y.key, .tuple (sh_cons ((Sh.str (by kernel_rfl)).mono (Nat.zero_le _)) (sh_cons x.sh (sh_cons y.sh sh_nil))), by simp <;> omega, by
    have := x.len; have := y.len; simp; omega⟩
theorem Sh.eqv (x : Sh d n) : PyData.eqv d d = true := eqv_self d x.1
theorem Sh.shaped (x : Sh d n) (l : n ≤ 64) : PySem.SeqAt.shaped d = true := by
  unfold PySem.SeqAt.shaped
  rw [x.1, decide_eq_true (Nat.le_trans x.2 l)]; rfl
end
section
variable {w : World} {A : Around} {E : Value → Shared → Prop} {s : Shared} {g : Heap} {W : List Addr} {h0 : Heap} {m : PySem.Str → Option Value} {R : Result → Shared → Prop}
theorem comp_loop2 {elt target iter : PySem.Expr} {scope : Scope} {pos : Pos} {it acc : Value} {env : Env} (I : Nat → Shared → Prop)
    (turn : ∀ n s, I n s → wpAny (MM w) A (pyNext it) (fun r s₁ => match r with
      | none => R (.ok .next) s₁
      | some v => wpAny (MM w) A (letOwnedTupleGo target it v) (fun _ s₁' => wpAny (MM w) A (assign target env v) (fun _ s₂ => wpAny (MM w) A (eval elt env) (fun x s₃ =>
          wpAny (MM w) A (call (.builtin "list.append") [acc, x]) (fun _ s₄ => ∃ m, m < n ∧ I m s₄) (notedBy (MM w) A env fun e s' => R (.error e) s') s₃)
          (notedBy (MM w) A env fun e s' => R (.error e) s') s₂) (notedBy (MM w) A env fun e s' => R (.error e) s') s₁') (notedBy (MM w) A env fun e s' => R (.error e) s') s₁) (notedBy (MM w) A env fun e s' => R (.error e) s') s)
    (n : Nat) (h : I n s) : codeAny (MM w) A (.compLoop (.ListComp elt [⟨target, iter, [], 0⟩] scope pos) 0 it acc env) R s := by
  refine codeAny_loop rfl I (fun n s hI => ?_) n h
  show wpAny _ _ ((compTurn (.ListComp elt [⟨target, iter, [], 0⟩] scope pos) 0 it acc env).onRaise (fun x => do noteFrame x env; theTreesLotGoes x)) _ _ s
  refine wpAny_noted ?_
  rw [compTurn_list1]
  refine wpAny_bind (wpAny_standAt (wpAny_bind (wpAny_mono (turn n s hI) (fun r s₁ h₁ => ?_) fun _ _ h' => h')))
  cases r with
  | none => exact wpAny_pure h₁
  | some v =>
    exact wpAny_bind (wpAny_mono h₁ (fun _ s₁' h₁' => wpAny_bind (wpAny_mono h₁' (fun _ s₂ h₂ => wpAny_bind (wpAny_bind (wpAny_mono h₂ (fun x s₃ h₃ => wpAny_bind (wpAny_mono h₃
      (fun _ s₄ h₄ => wpAny_pure (wpAny_pure ⟨rfl, h₄⟩)) fun _ _ h' => h')) fun _ _ h' => h'))) fun _ _ h' => h')) fun _ _ h' => h')
structure Walk2 (w : World) (A : Around) (target : PySem.Expr) (I : Addr) (fp wr : List Addr) (n : Nat) (P : Nat → Value → Heap → Prop) (Sx : Nat → Heap → Prop) : Prop where
  sub : ∀ b ∈ wr, b ∈ fp
  frame : ∀ i h h', Sx i h → (∀ b ∈ fp, ∀ o, h.get? b = some o → h'.get? b = some o) → Sx i h'
  item : ∀ i (s : Shared) (Q : Value → Shared → Prop) (E : Value → Shared → Prop), i < n → Sx i s.heap →
    (∀ v h' tk, P i v h' → Sx (i + 1) h' → (∀ b o, b ∉ wr → s.heap.get? b = some o → h'.get? b = some o) → Q v { s with heap := h', toks := tk }) →
    wpAny (MM w) A (pyNext (.ref I)) (fun r s₁ => match r with | none => False | some v => wpAny (MM w) A (letOwnedTupleGo target (.ref I) v) (fun _ s₂ => Q v s₂) E s₁) E s
  done : ∀ (s : Shared) (Q : Option Value → Shared → Prop) (E : Value → Shared → Prop), Sx n s.heap →
    (∀ h' tk, (∀ b o, b ∉ wr → s.heap.get? b = some o → h'.get? b = some o) → Q none { s with heap := h', toks := tk }) → wpAny (MM w) A (pyNext (.ref I)) Q E s
  self : ∀ i (s : Shared) (Q : Value → Shared → Prop) (E : Value → Shared → Prop), Sx i s.heap → Q (.ref I) s → wpAny (MM w) A (pyIter (.ref I)) Q E s
theorem walk_enum (hA : A.handled = none) {e it l : Addr} {items : Array Value} {elts : List PySem.Expr} {x1} {pos : Pos} (n1 : e ≠ it) (n2 : e ≠ l) (n3 : it ≠ l) :
    Walk2 w A (.Tuple elts x1 pos) e [e, it, l] [e, it] items.size (fun i v h => ∃ a t x, v = .ref a ∧ items[i]? = some x ∧ h.get? a = some (tupO [.int i t, x]))
      (fun i h => (∃ old, IsEnum h e it i old) ∧ h.IsListIter it l i ∧ h.IsList l items) where
  sub := fun b q => by
    simp at q ⊢
    rcases q with q | q
    · exact .inl q
    · exact .inr (.inl q)
  frame := fun i h h' ⟨⟨old, a⟩, b, c⟩ k => ⟨⟨old, k e (by simp) _ a⟩, b.at fun o q => k it (by simp) o q, c.at fun o q => k l (by simp) o q⟩
  item := fun i s Q E hi ⟨⟨old, a⟩, b, c⟩ hQ => by
    have hx : items[i]? = some items[i] := Array.getElem?_eq_getElem hi
    refine wpAny_pyNext_enum_item a b c hx n1 fun h1 eo b1 t1 z1 k1 => ?_
    refine wpAny_letOwnedTupleGo_enum (s := { s with heap := h1, toks := s.toks + 1 }) eo fun h2 e2 s2 => ?_
    have ne : s.heap.objs.size ≠ e := fun q => by have := Heap.lt_size a; rw [← q] at this; exact Nat.lt_irrefl _ this
    have up : ∀ b o, b ≠ e → h1.get? b = some o → h2.get? b = some o := fun b o n q => (s2.2 b n).trans q
    refine hQ (.ref s.heap.objs.size) h2 (s.toks + 1) ⟨s.heap.objs.size, s.toks, items[i], rfl, hx, up _ _ ne t1⟩ ⟨⟨items[i], ?_⟩, b1.at fun o q => up _ _ (Ne.symm n1) q, ?_⟩ fun b o n q => ?_
    · exact e2
    · obtain ⟨o, q, r⟩ := c
      exact ⟨o, up _ _ (Ne.symm n2) (k1 _ _ (Ne.symm n2) (Ne.symm n3) q), r⟩
    · simp at n
      exact up _ _ n.1 (k1 _ _ n.1 n.2 q)
  done := fun s Q E ⟨⟨old, a⟩, b, c⟩ hQ => wpAny_pyNext_enum_end hA a b c (by simp) fun h' x => hQ h' s.toks fun b o n q => x b o (fun z => n (by simp [z])) q
  self := fun i s Q E ⟨⟨old, a⟩, b, c⟩ h => wpAny_pyIter_enum a h
theorem comp_run2 {env : Env} {elt target iter : PySem.Expr} {scope : Scope} {pos : Pos} {cl : List (PySem.Str × Addr)} {I : Addr} {fp wr : List Addr} {n : Nat} {P : Nat → Value → Heap → Prop} {Sx : Nat → Heap → Prop} {use : Option (Value → Sem Unit)} {Q : Value → Shared → Prop}
    (J : Addr → Addr → Nat → List Value → Heap → Prop) {hB : Heap} (kB : Keep2 [] hB s.heap) (nB : ∀ a ∈ wr, hB.get? a = none)
    (Wk : Walk2 w A target I fp wr n P Sx) (ns : ∀ i h, Sx i h → ∀ a ∈ wr, ∃ o, h.get? a = some o ∧ ¬ Stab o) (C : Cx g W h0 env.locals m s.heap) (nL : h0.get? env.locals = none) (st0 : Sx 0 s.heap) (lf : ∀ a ∈ fp, ∃ o, s.heap.get? a = some o)
    (n0 : ∀ a ∈ wr, h0.get? a = none) (ng : ∀ a ∈ wr, g.get? a = none) (fL : env.locals ∉ fp) (fW : ∀ a ∈ fp, a ∉ W) (hz : n ≤ 1000) (hcell : ∀ y ∈ scope.names, y.2 ≠ .cell) (hkind : scope.kind = .function)
    (J0 : ∀ a K h', s.heap.get? a = none → s.heap.get? K = none → a ≠ K → Keep2 [] s.heap h' → J a K 0 [] h')
    (Jgo : ∀ a K i vs h h', s.heap.get? a = none → s.heap.get? K = none → J a K i vs h → KeepZ (a :: K :: wr) h h' → J a K i vs h')
    (step : ∀ a K i v vs h' tk m', s.heap.get? a = none → s.heap.get? K = none → a ≠ K → i < n → vs.length = i → P i v h' → Cx g W h0 K m' h' → h0.get? K = none → Keep2 W hB h' → (∃ o, h'.get? a = some o) → Sx (i + 1) h' → J a K i vs h' → ∀ E' : Value → Shared → Prop,
      wpAny (MM w) A (assign target (compEnvC scope cl K env) v) (fun _ s2 => wpAny (MM w) A (eval elt (compEnvC scope cl K env)) (fun x s3 => ∃ h'' tk'' m'', s3 = { s with heap := h'', toks := tk'' } ∧ Cx g W h0 K m'' h'' ∧ Keep2 (K :: W) h' h'' ∧ J a K (i + 1) (vs ++ [x]) h'') E' s2) E' { s with heap := h', toks := tk })
    (fin : ∀ a K vs h' tk m' n', s.heap.get? a = none → s.heap.get? K = none → a ≠ K → h'.Ns K m' → Cx g W h0 env.locals m h' → Keep2 W hB h' → J a K n vs h' → h'.get? a = some (listOf vs.toArray n') → vs.length = n → compPost (MM w) A E use Q (.ref a) K (.ok .next) { s with heap := h', toks := tk }) :
    wpAny (MM w) A (newList []) (fun acc s₃ => wpAny (MM w) A (newFunctionEnv scope env.globals cl [] env.qual none .none (some env)) (fun cenv s₄ =>
      codeAny (MM w) A (.compStart (.ListComp elt [⟨target, iter, [], 0⟩] scope pos) 0 (.ref I) acc { cenv with scope := relabel scope env }) (compPost (MM w) A E use Q acc cenv.locals) s₄) E s₃) E s := by
  have nWr : ∀ a ∈ wr, a ∉ W := fun a q => fW a (Wk.sub a q)
  refine new_list fun a h1 na k1 e1 => ?_
  refine wpAny_newFunctionEnv hcell (by intro y hy; simp at hy) (fun h₂ hns hsb => ?_) hkind
  have nK : h1.get? h1.objs.size = none := none_of_size
  have kK : Keep2 [] h1 h₂ := Keep2.all fun b o e => hsb.extBut b o (fun q => by rw [q, nK] at e; cases e) (Heap.get?_push_of_some _ e)
  generalize hKe : h1.objs.size = K at hns hsb nK ⊢
  have sK : s.heap.get? K = none := none_back k1.live nK
  have aK : a ≠ K := fun q => by rw [q, nK] at e1; cases e1
  refine bc fun hGo => ?_
  obtain ⟨za0, zag, zaW, zaL⟩ := C.none_of na
  obtain ⟨zK0, zKg, zKW, zKL⟩ := C.none_of sK
  refine hGo ?_; clear hGo
  have k12 : Keep2 [] s.heap h₂ := k1.trans kK
  have wl : ∀ b ∈ wr, ∃ o, s.heap.get? b = some o := fun b q => lf b (Wk.sub b q)
  have nfa : a ∉ fp := fun q => by obtain ⟨o, e⟩ := lf a q; rw [na] at e; cases e
  have nfK : K ∉ fp := fun q => by obtain ⟨o, e⟩ := lf K q; rw [sK] at e; cases e
  have st2 : Sx 0 h₂ := Wk.frame _ _ _ st0 fun b q o e => k12.keep b o e List.not_mem_nil
  have C2 : Cx g W h0 env.locals m h₂ := C.gs k12
  have own : ∀ {h' : Heap} {m' : PySem.Str → Option Value}, h'.Ns K m' → Cx g W h0 env.locals m h' → Cx g W h0 K m' h' := fun hn c =>
    ⟨hn, c.st, zKW, zKg, (c.keep nL).more fun x q => .tail _ q⟩
  have loop : ∀ s₃ : Shared, s₃ = { s with heap := h₂, toks := s.toks + ([] : List (PySem.Str × Value)).length } → codeAny (MM w) A (.compLoop (.ListComp elt [⟨target, iter, [], 0⟩] scope pos) 0 (.ref I) (.ref a) (compEnvC scope cl K env)) (compPost (MM w) A E use Q (.ref a) K) s₃ := by
    rintro s₃ rfl
    refine comp_loop2 (fun k s' => ∃ i m' h' tk' vs n', k + i = n ∧ s' = { s with heap := h', toks := tk' } ∧ h'.Ns K m' ∧ Cx g W h0 env.locals m h' ∧ Sx i h' ∧ Keep2 W hB h' ∧ J a K i vs h' ∧ h'.get? a = some (listOf vs.toArray n') ∧ vs.length = i)
      ?_ n ⟨0, _, h₂, _, [], 0, by omega, rfl, hns, C2, st2, (kB.trans k12).more (fun _ q => (nomatch q)), J0 a K h₂ na sK aK k12, kK.keep _ _ e1 List.not_mem_nil, rfl⟩
    intro k s' hI
    refine bc fun hGo => ?_
    obtain ⟨i, m', h', tk', vs, n', hi, rfl, hn, C', sx, kk, hJ, ha, hv⟩ := hI
    refine hGo ?_; clear hGo
    have z2 : ∀ {h2 : Heap}, (∀ b o, b ∉ wr → h'.get? b = some o → h2.get? b = some o) → KeepZ (a :: K :: wr) h' h2 := fun kb => ⟨fun b o e q => kb b o (fun z => q (.tail _ (.tail _ z))) e, fun b o y e => kb b o (fun q => by obtain ⟨o', e', z⟩ := ns _ _ sx b q; rw [e] at e'; cases e'; exact z y) e⟩
    have kk2 : ∀ {h2 : Heap}, (∀ b o, b ∉ wr → h'.get? b = some o → h2.get? b = some o) → Keep2 W hB h2 := fun {h2} kb => by
      have nb : ∀ b o, hB.get? b = some o → b ∉ wr := fun b o e q => by rw [nB b q] at e; cases e
      exact ⟨fun b o e q => kb b o (nb b o e) (kk.keep b o e q), fun b o e => let ⟨o', e'⟩ := kk.live b o e; ⟨o', kb b o' (nb b o e) e'⟩, fun b o y e => kb b o (nb b o e) (kk.stab b o y e)⟩
    have aw : a ∉ wr := fun q => nfa (Wk.sub _ q)
    have Kw : K ∉ wr := fun q => nfK (Wk.sub _ q)
    have Lw : env.locals ∉ wr := fun q => fL (Wk.sub _ q)
    have over : ∀ {h2 : Heap}, (∀ b o, b ∉ wr → h'.get? b = some o → h2.get? b = some o) → Cx g W h0 env.locals m h2 ∧ h2.Ns K m' ∧ h2.get? a = some (listOf vs.toArray n') := fun kb => by
      refine ⟨C'.overs (fun b o e q => kb b o q e) n0 Lw ng nWr, ?_, kb _ _ aw ha⟩
      obtain ⟨o, es, ep, e, r⟩ := hn
      exact ⟨o, es, ep, kb _ _ Kw e, r⟩
    cases k with
    | zero =>
      have e : i = n := by omega
      subst e
      refine Wk.done _ _ _ sx fun h2 tk2 kb => ?_
      refine bc fun hGo => ?_
      obtain ⟨C3, hn3, ha3⟩ := over kb
      refine hGo ?_; clear hGo
      exact fin a K vs h2 tk2 m' n' na sK aK hn3 C3 (kk2 kb) (Jgo _ _ _ _ _ _ na sK hJ (z2 kb)) ha3 hv
    | succ k =>
      refine wpAny_mono (Wk.item i _ _ _ (by omega) sx fun v h2 tk2 hP sx2 kb => ?_) (fun r s₁ y => by cases r with | none => exact y.elim | some v => exact y) (fun _ _ y => y)
      refine bc fun hGo => ?_
      obtain ⟨C3, hn3, ha3⟩ := over kb
      refine hGo ?_; clear hGo
      have J2 := Jgo _ _ _ _ _ _ na sK hJ (z2 kb)
      refine wpAny_mono (step a K i v vs h2 tk2 m' na sK aK (by omega) hv hP (own hn3 C3) zK0 (kk2 kb) ⟨_, ha3⟩ sx2 J2 _) (fun _ s2 z => wpAny_mono z (fun x s3 y => ?_) fun _ _ y => y) fun _ _ y => y
      refine bc fun hGo => ?_
      obtain ⟨h4, tk4, m4, rfl, C4, k4, J4⟩ := y
      refine hGo ?_; clear hGo
      have ka : a ∉ K :: W := fun q => (List.mem_cons.mp q).elim aK zaW
      have e4 := k4.keep _ _ ha3 ka
      refine append_at (s := { s with heap := h4, toks := tk4 }) e4 (fun h5 sb e5 => ?_) (by rw [PySem.sizeLine_eq, List.size_toArray]; omega)
      have k5 : Keep2 [a] h4 h5 := keep2_same sb ⟨_, e5⟩ (list_ns e4)
      have C5 : Cx g W h0 env.locals m h5 := (C3.goX k4 fun x q => (List.mem_cons.mp q).elim (fun y => .inr (y ▸ ⟨zK0, zKL, zKg⟩)) .inl).goX k5 fun x q => .inr (List.mem_singleton.mp q ▸ ⟨za0, zaL, zag⟩)
      refine ⟨k, by omega, i + 1, m4, h5, tk4, vs ++ [x], n' + 1, by omega, rfl, ?_, C5, ?_, ?_, Jgo _ _ _ _ _ _ na sK J4 (k5.z fun x q => by rw [List.mem_singleton.mp q]; exact .head _), by rw [e5]; simp, by simp [hv]⟩
      · obtain ⟨o, es, ep, e, r⟩ := C4.ns
        exact ⟨o, es, ep, k5.keep _ _ e fun q => aK (List.mem_singleton.mp q).symm, r⟩
      · refine Wk.frame _ _ _ sx2 fun b q o e => k5.keep _ _ (k4.keep _ _ e fun z => ?_) fun z => nfa (List.mem_singleton.mp z ▸ q)
        rcases List.mem_cons.mp z with z | z
        · exact nfK (z ▸ q)
        · exact fW b q z
      · have kh : Keep2 (a :: K :: W) hB h5 := ((kk2 kb).more fun x q => .tail _ (.tail _ q)).trans ((k4.more fun x q => .tail _ q).trans (k5.more fun x q => by rw [List.mem_singleton.mp q]; exact .head _))
        have na' := none_back kB.live na
        have nK' := none_back kB.live sK
        exact ⟨fun b o e q => kh.keep b o e fun z => (List.mem_cons.mp z).elim (fun y => by rw [y, na'] at e; cases e) fun z => (List.mem_cons.mp z).elim (fun y => by rw [y, nK'] at e; cases e) q, kh.live, kh.stab⟩
  exact codeAny_compStart_list (loop _ rfl) (Wk.self 0 _ _ _ st2 (loop _ rfl))
end
def TokD (w : World) (h : Heap) (v : Value) (i : Nat) (t : Tx) (da : Addr) : Prop :=
  ∃ a ata k0 k1 k2 k3 k4 k5 k6 k7 n, v = .ref a ∧ h.get? a = some (instObj 672 da) ∧ h.get? da = some (dictOf (tdict w t (.ref ata) k0 k1 k2 k3 k4 k5) n) ∧
    h.get? ata = some { cls := .type "tuple", data := .seq #[.int ((i : Int) + 1) k6, .int 12 k7] }
theorem TokD.at_ {w : World} {h : Heap} {v : Value} {i : Nat} {t : Tx} {da : Addr} (x : TokD w h v i t da) : TokAt w h v i t := by
  obtain ⟨a, ata, k0, k1, k2, k3, k4, k5, k6, k7, n, r⟩ := x
  exact ⟨a, da, ata, k0, k1, k2, k3, k4, k5, k6, k7, n, r⟩
theorem TokD.goZ {w : World} {h h' : Heap} {v : Value} {i : Nat} {t : Tx} {da : Addr} {Z : List Addr} (k : KeepZ Z h h') (x : TokD w h v i t da) (n : da ∉ Z) : TokD w h' v i t da := by
  obtain ⟨a, ata, k0, k1, k2, k3, k4, k5, k6, k7, m, e, e1, e2, e3⟩ := x
  exact ⟨a, ata, k0, k1, k2, k3, k4, k5, k6, k7, m, e, k.stab _ _ trivial e1, k.keep _ _ e2 n, k.stab _ _ (rfl : _ = _) e3⟩
theorem tok_open {h : Heap} {v : Value} {x y : PySem.Str} (a : At h v (.tuple [.str x, .str y])) : ∃ b t1 t2, v = .ref b ∧ IsTup h b [Value.str x t1, Value.str y t2].toArray := by
  generalize e : ([] : List Addr) = as at a
  cases a with
  | @tuple b o vs n ds as h1 h2 h3 h4 =>
    subst e
    obtain ⟨v0, e0, a0⟩ := readsAll_at h4 rfl 0 _ rfl
    obtain ⟨v1, e1, a1⟩ := readsAll_at h4 rfl 1 _ rfl
    have l := readsAll_len h4
    obtain ⟨t1, rfl⟩ : ∃ t, v0 = .str x t := by cases a0; exact ⟨_, rfl⟩
    obtain ⟨t2, rfl⟩ : ∃ t, v1 = .str y t := by cases a1; exact ⟨_, rfl⟩
    have hv : vs.toList = [Value.str x t1, Value.str y t2] := by
      apply List.ext_getElem?
      intro i
      rcases i with _ | _ | i
      · simpa using e0
      · simpa using e1
      · rw [List.getElem?_eq_none (by simp at l ⊢; omega), List.getElem?_eq_none (by simp)]
    refine ⟨_, t1, t2, rfl, _, h1, h2, n, ?_⟩
    rw [h3, ← hv]
theorem kt_nil {Z : List Addr} {h hm h' : Heap} (k : Keep2 [] hm h') (r : Keep2 Z h hm) : Keep2 Z h h' := r.trans (k.more fun _ q => nomatch q)
theorem kt_same {Z : List Addr} {h hm h' : Heap} (k : Keep2 Z hm h') (r : Keep2 Z h hm) : Keep2 Z h h' := r.trans k
theorem said100 : True := by
  k_with "m:kt" => first | exact Keep2.refl | exact kt_nil ‹_› (by walk_at "kt") | exact kt_same ‹_› (by walk_at "kt") | fail "kt"
  trivial
theorem istup_go {h h' : Heap} {X : List Addr} {b : Addr} {vs : Array Value} (k : Keep2 X h h') (x : IsTup h b vs) : IsTup h' b vs := by
  obtain ⟨o, e, c, n, d⟩ := x
  exact ⟨o, k.stab _ _ (by unfold Stab; rw [d]; exact c) e, c, n, d⟩
theorem assign_tup2 {env : Env} {elts : List PySem.Expr} {x1} {pos : Pos} {a : Addr} {vs : List Value} {Q : Unit → Shared → Prop} (hh : A.handled = none) (e : IsTup s.heap a vs.toArray)
    (hn : (assignEach elts env).length = vs.toArray.size) (hstar : (assignEach elts env).findIdx? (·.1) = none)
    (h : ∀ h', Keep2 [] s.heap h' → wpAny (MM w) A (assignInOrder ((assignEach elts env).map (·.2)) vs) Q E { s with heap := h' }) :
    wpAny (MM w) A (assign (.Tuple elts x1 pos) env (.ref a)) Q E s :=
  assign_Tuple_tuple hh e hn hstar fun h' he => h h' (Keep2.all fun b o q => he b o (Nat.ne_of_lt (Heap.lt_size q)) q)
theorem C_lawreader {l : Addr} {ts : List Tx} {Q : Value → Shared → Prop} (G : Gd w g) (S : St g W s.heap) (hh : A.handled = none) (hd : A.depth + 6 < recursionLimit) (x : TokL s.heap l ts) (hz : ts.length ≤ 500)
    (h : ∀ (r D tl N : Addr) (vs : List Value) (n : Nat) (h' : Heap) (tk : Nat), Keep2 [] s.heap h' → s.heap.get? r = none → s.heap.get? D = none → s.heap.get? tl = none → s.heap.get? N = none → h'.get? r = some (instObj 642 D) → RD w h' D tl 0 (.ref N) → h'.get? tl = some (listOf vs.toArray n) → (∀ (i : Nat) (t : Tx), ts[i]? = some t → ∃ v, vs[i]? = some v ∧ ∃ da, TokD w h' v i t da ∧ s.heap.get? da = none) → vs.length = ts.length → Q (.ref r) { s with heap := h', toks := tk }) : wpAny (MM w) A (call (.ref 705) [.ref l]) Q E s := by
  w_top off
  have S1 : St g [] s.heap := S.none
  refine enterN (W := []) [("tokens", .ref l)] G S1 ((fn_at G S (f705 w)).trans rfl) (by kernel_rfl) (by walk_at "dq") (BindsTo.of_eq rfl) (locs rfl) ?_ (by rfl)
  intro L h₁ tk C nL k0
  refine bc fun hGo => ?_
  obtain ⟨us, n0, el, hI⟩ := x
  refine hGo ?_; clear hGo
  have el1 := k0 _ _ el
  repeat walk1
  refine call_enumerate_1 (n := n0) el1 fun h2 ie il sz kb => ?_
  have k2 : Keep2 [] h₁ h2 := Keep2.all kb
  have C2 := C.gs k2
  have ne0 : h₁.get? h₁.objs.size = none := none_of_size
  have ne1 : h₁.get? (h₁.objs.size + 1) = none := Heap.get?_none_of_le (Nat.le_succ _)
  have nei : h₁.objs.size + 1 ≠ h₁.objs.size := Nat.succ_ne_self _
  clear sz
  generalize h₁.objs.size + 1 = e at ie ne1 nei ⊢
  generalize h₁.objs.size = it at ie il ne0 nei ⊢
  have z0 := C.none_of ne0
  have z1 := C.none_of ne1
  have nl0 : l ≠ it := fun q => by rw [q, ne0] at el1; cases el1
  have nl1 : l ≠ e := fun q => by rw [q, ne1] at el1; cases el1
  have lL : l ≠ L := list_ne_L (list_at el1) C.ns
  refine wpAny_pyIter_enum ie ?_
  try dsimp only
  refine comp_run2 (I := e) (hB := h₁) (fun a K i vs h => vs.length = i ∧ ∀ (j : Nat) (v : Value) (t : Tx), vs[j]? = some v → ts[j]? = some t → ∃ da, TokD w h v j t da ∧ da ∉ [a, K, e, it] ∧ s.heap.get? da = none) k2 ?_ (walk_enum (by exact hh) (items := us.toArray) (l := l) (it := it) nei (Ne.symm nl1) (Ne.symm nl0)) ?_ C2 nL ⟨⟨_, ie⟩, il, list_at (k2.keep _ _ el1 List.not_mem_nil)⟩ ?_ ?_ ?_ ?_ ?_ ?_ (by decide) (by rfl) ?_ ?_ ?_ ?_
  · intro a q
    rcases List.mem_cons.mp q with q | q
    · exact q ▸ ne1
    · exact List.mem_singleton.mp q ▸ ne0
  · intro i h sx a q
    rcases List.mem_cons.mp q with q | q
    · obtain ⟨⟨old, ie'⟩, _, _⟩ := sx
      exact ⟨_, q ▸ ie', fun z => by obtain ⟨x, t, q⟩ := z; simp at q⟩
    · obtain ⟨_, ⟨o, eo, c, d⟩, _⟩ := sx
      exact ⟨o, List.mem_singleton.mp q ▸ eo, fun n => by unfold Stab at n; rw [d] at n; simp at n⟩
  · intro a q
    simp only [List.mem_cons, List.not_mem_nil, or_false] at q
    rcases q with q | q | q
    · exact ⟨_, q ▸ ie⟩
    · obtain ⟨o, eo, _⟩ := il; exact ⟨o, q ▸ eo⟩
    · exact ⟨_, q ▸ k2.keep _ _ el1 List.not_mem_nil⟩
  · intro a q
    rcases List.mem_cons.mp q with q | q
    · exact q ▸ z1.1
    · exact List.mem_singleton.mp q ▸ z0.1
  · intro a q
    rcases List.mem_cons.mp q with q | q
    · exact q ▸ z1.2.1
    · exact List.mem_singleton.mp q ▸ z0.2.1
  · intro q
    simp only [List.mem_cons, List.not_mem_nil, or_false] at q
    rcases q with q | q | q
    · exact z1.2.2.2 q.symm
    · exact z0.2.2.2 q.symm
    · exact lL q.symm
  · intro a _ q; cases q
  · rw [List.size_toArray, hI.1]; omega
  · intro a K h' _ _ _ _
    exact ⟨rfl, fun j v t q => by simp at q⟩
  · intro a K i vs h h' na nK hJ k
    exact ⟨hJ.1, fun j v t q1 q2 => let ⟨da, x, n, z⟩ := hJ.2 j v t q1 q2; ⟨da, x.goZ k n, n, z⟩⟩
  · intro a K i v vs h' tk3 m' na nK aK hi hv hP Cc zK kk la sx hJ E'
    refine bc fun hGo => ?_
    obtain ⟨aa, ta, xx, rfl, hx, ea⟩ := hP
    refine hGo ?_; clear hGo
    have hx' : us[i]? = some xx := by simpa using hx
    have hit : i < ts.length := by rw [← hI.1]; simpa using hi
    have A1 := ((hI.2 i xx _ hx' (List.getElem?_eq_getElem hit)).go (Keep2.all (W := []) k0)).go kk
    refine bc fun hGo => ?_
    obtain ⟨b, t1, t2, rfl, tb⟩ := tok_open A1
    refine hGo ?_; clear hGo
    refine assign_tup hh ea (by rfl) (by rfl) fun h3 k3 => ?_
    have C3 := Cc.gs k3
    repeat walk1
    dsimp only
    refine assign_tup2 hh (istup_go (X := [K]) (by assumption) (istup_go k3 tb)) (by rfl) (by rfl) fun h4 k4 => ?_
    have C4 := Cx.gs (by assumption) k4
    repeat walk1
    try dsimp only
    refine C_newToken G (Cx.st (by assumption)) (by first | walk_at "dr" | (show A.depth + 1 + 2 < _; omega)) fun x dx h5 tk5 nn u0 u1 u2 u3 k5 nx ndx ex edx => ?_
    have C5 := Cx.gs (by assumption) k5
    have kK : Keep2 [K] h' h5 := by walk_at "kt"
    refine ⟨h5, tk5, _, rfl, C5, kK, by simp [hv], fun j v t q1 q2 => ?_⟩
    rcases Nat.lt_or_ge j vs.length with c | c
    · rw [List.getElem?_append_left c] at q1
      refine bc fun hGo => ?_
      obtain ⟨da, x0, n0', z0'⟩ := hJ.2 j v t q1 q2
      refine hGo ?_; clear hGo
      exact ⟨da, x0.goZ (kK.z fun _ q => q) (fun q => n0' (.tail _ (List.mem_singleton.mp q ▸ .head _))), n0', z0'⟩
    · have ej : j = vs.length := by
        have := (List.getElem?_eq_some_iff.mp q1).1
        simp at this; omega
      subst ej
      rw [List.getElem?_append_right (Nat.le_refl _)] at q1
      simp at q1
      subst q1
      rw [hv, List.getElem?_eq_getElem hit] at q2
      cases q2
      have nd' : h'.get? dx = none := none_back (Keep2.live (W := [K]) (by walk_at "kt")) ndx
      refine ⟨dx, ?_, fun q => ?_, none_back C.k.live (none_back kk.live nd')⟩
      · rw [hv]
        exact ⟨x, _, _, _, _, _, _, _, _, _, _, rfl, ex, edx, k5.stab _ _ (rfl : _ = _) (by assumption)⟩
      · simp only [List.mem_cons, List.not_mem_nil, or_false] at q
        rcases q with rfl | rfl | rfl | rfl
        · obtain ⟨o, z⟩ := la; rw [nd'] at z; cases z
        · obtain ⟨o, _, _, z, _⟩ := Cc.ns; rw [nd'] at z; cases z
        · obtain ⟨⟨_, z⟩, _, _⟩ := sx; exact nomatch nd'.symm.trans z
        · obtain ⟨_, ⟨o, z, _⟩, _⟩ := sx; rw [nd'] at z; cases z
  · intro a K vs h' tk3 m' n' na nK aK hn' c kk hJ ha hv
    refine ⟨m', hn', fun h'' sb => ?_⟩
    have nK1 : h₁.get? K = none := none_back k2.live nK
    have zz := C.none_of nK1
    have kb2 : ∀ b o, h'.get? b = some o → b ∉ [K] → h''.get? b = some o := fun b o e q => (sb.2 b fun z => q (z ▸ .head _)).trans e
    have kz : KeepZ [K] h' h'' := ⟨kb2, fun b o y e => kb2 b o e fun z => Ns_not_stab hn' o (List.mem_singleton.mp z ▸ e) y⟩
    have C3 := c.overs kb2 (by simpa using zz.1) (by simpa using (Ne.symm zz.2.2.2)) (by simpa using zz.2.1) (by simp)
    have kk3 : Keep2 [] h₁ h'' := kk.over (F := [K]) (by simpa using nK1) kb2
    have a3 := kb2 _ _ ha fun z => aK (List.mem_singleton.mp z)
    have na1 : h₁.get? a = none := none_back k2.live na
    try dsimp only
    repeat walk1
    try dsimp only
    refine C_newReader G C3.st (by first | walk_at "dr" | (show A.depth + 1 + 2 < _; omega)) fun r D N h5 tk5 k5 nr nD nN er rd => ?_
    have C5 := C3.gs k5
    repeat walk1
    try dsimp only
    have b1 : ∀ {b : Addr}, h''.get? b = none → s.heap.get? b = none := fun z => none_back C3.k.live z
    have hlen : vs.length = ts.length := by rw [hv, List.size_toArray, hI.1]
    refine h r D a N vs n' _ _ (C5.keep nL) (b1 nr) (b1 nD) (none_back C.k.live na1) (b1 nN) er rd (k5.keep _ _ a3 List.not_mem_nil) (fun i t e0 => ?_) hlen
    have hi : i < vs.length := by rw [hlen]; exact (List.getElem?_eq_some_iff.mp e0).1
    refine bc fun hGo => ?_
    obtain ⟨da, x0, n9, z9⟩ := hJ.2 i _ t (List.getElem?_eq_getElem hi) e0
    refine hGo ?_; clear hGo
    exact ⟨_, List.getElem?_eq_getElem hi, da, (x0.goZ kz fun q => n9 (.tail _ (List.mem_singleton.mp q ▸ .head _))).goZ (k5.z fun _ q => q) List.not_mem_nil, z9⟩
section
variable {w : World} {A : Around} {E : Value → Shared → Prop} {s : Shared} {g : Heap} {W X : List Addr} {h0 h1 h2 h h' h'' : Heap} {L : Addr} {m : PySem.Str → Option Value} {fs : List Env} {env : Env}
structure KeepF (W : List Addr) (fs : List Env) (h h' : Heap) : Prop where
  keep : ∀ b o, h.get? b = some o → b ∉ W → b ∉ frs fs → h'.get? b = some o
  live : ∀ b o, h.get? b = some o → ∃ o', h'.get? b = some o'
  stab : ∀ b o, Stab o → h.get? b = some o → h'.get? b = some o
  frame : ∀ b o, h.get? b = some o → b ∈ frs fs → ∃ sl, h'.get? b = some { o with slots := sl }
theorem KeepF.refl : KeepF W fs h h := ⟨fun _ _ e _ _ => e, fun _ o e => ⟨o, e⟩, fun _ _ _ e => e, fun _ o e _ => ⟨o.slots, e⟩⟩
theorem KeepF.trans (a : KeepF W fs h h') (b : KeepF W fs h' h'') : KeepF W fs h h'' :=
  ⟨fun x o e n q => b.keep x o (a.keep x o e n q) n q, fun x o e => let ⟨o', e'⟩ := a.live x o e; b.live x o' e', fun x o z e => b.stab x o z (a.stab x o z e),
    fun x o e q => let ⟨sl, e'⟩ := a.frame x o e q; let ⟨sl', e''⟩ := b.frame x { o with slots := sl } e' q; ⟨sl', e''⟩⟩
theorem KeepF.more {W' : List Addr} (a : KeepF W fs h h') (s : ∀ x ∈ W, x ∈ W') : KeepF W' fs h h' := ⟨fun b o e n q => a.keep b o e (fun z => n (s b z)) q, a.live, a.stab, a.frame⟩
theorem Keep2.toF (k : Keep2 W h h') (n : ∀ x ∈ frs fs, x ∉ W) : KeepF W fs h h' := ⟨fun b o e n _ => k.keep b o e n, k.live, k.stab, fun b o e q => ⟨o.slots, k.keep b o e (n b q)⟩⟩
theorem Fly.toF {C e d : Addr} {D : PyData} {fl : Value} (F : Fly W fs C D h h' e d fl) : KeepF W fs h h' := ⟨F.keep, F.live, F.stab, F.frame⟩
theorem KeepF.to2 (k : KeepF W [] h h') : Keep2 W h h' := ⟨fun b o e n => k.keep b o e n List.not_mem_nil, k.live, k.stab⟩
theorem FF.goF (x : FF W h fs) (k : KeepF X fs h h') : FF W h' fs := fun y q => by
  obtain ⟨a, L, m, e, ⟨o, es, ep, ho, r⟩, n⟩ := x y q
  obtain ⟨sl, e'⟩ := k.frame L o ho (List.mem_filterMap.mpr ⟨y, q, e⟩)
  exact ⟨a, L, m, e, ⟨_, es, ep, e', r⟩, n⟩
theorem FF.wider {W' : List Addr} (x : FF W h fs) (s : ∀ b ∈ W', b ∈ W ∨ h.get? b = none) : FF W' h fs := fun y q =>
  let ⟨a, L, m, e, r, n⟩ := x y q
  ⟨a, L, m, e, r, fun z => (s L z).elim n fun u => by obtain ⟨o, _, _, ho, _⟩ := r; rw [u] at ho; cases ho⟩
theorem FF.cons {W' : List Addr} (x : FF W h fs) (C : Cx g W' h0 L m h) (n : L ∉ W) (hk : env.scope.kind ≠ .module) (hf : env.frame = some L) : FF W h (env :: fs) := fun y q => by
  rcases List.mem_cons.mp q with rfl | q
  · exact ⟨hk, L, m, hf, C.ns, n⟩
  · exact x y q
theorem Cx.swap {g' : Heap} {m' : PySem.Str → Option Value} (C : Cx g W h0 L m h) (C' : Cx g' W h L m' h') : Cx g W h0 L m' h' :=
  ⟨C'.ns, C.st.go C'.k fun a q => (List.mem_cons.mp q).elim (fun y => y ▸ C.gL) (C.st.off a), C.nL, C.gL, C.k.trans C'.k⟩
theorem frs_cons (hf : env.frame = some L) : frs (env :: fs) = L :: frs fs := by rw [frs, List.filterMap_cons, hf]
theorem KeepF.pop (k : KeepF X (env :: fs) h h') (hf : env.frame = some L) : KeepF (L :: X) fs h h' := by
  have e := frs_cons (fs := fs) hf
  refine ⟨fun b o q n1 n2 => k.keep b o q (fun z => n1 (.tail _ z)) fun z => ?_, k.live, k.stab, fun b o q z => k.frame b o q (by rw [e]; exact .tail _ z)⟩
  rw [e] at z
  exact (List.mem_cons.mp z).elim (fun y => n1 (y ▸ .head _)) n2
theorem KeepF.drop {Y : List Addr} (k : KeepF X fs h h') (s : ∀ x ∈ X, x ∈ Y ∨ h.get? x = none) : KeepF Y fs h h' :=
  ⟨fun b o q n1 n2 => k.keep b o q (fun z => (s b z).elim n1 fun y => by rw [y] at q; cases q) n2, k.live, k.stab, k.frame⟩
theorem Cx.aF (C : Cx g W h0 L m h) (k : KeepF X (env :: fs) h h') (hf : env.frame = some L) (sx : ∀ x ∈ X, g.get? x = none) (sf : ∀ x ∈ frs fs, g.get? x = none) : Cx g W h' L m h' := by
  have ef := frs_cons (fs := fs) hf
  refine ⟨?_, ⟨fun b o e => k.keep b o (C.st.sub b o e) (fun q => by rw [sx b q] at e; cases e) fun q => ?_, C.st.off, fun a q => let ⟨o, e⟩ := C.st.live a q; k.live a o e⟩, C.nL, C.gL, .refl⟩
  · obtain ⟨o, es, ep, e, r⟩ := C.ns
    obtain ⟨sl, e'⟩ := k.frame L o e (by rw [ef]; exact .head _)
    exact ⟨_, es, ep, e', r⟩
  · rw [ef] at q
    rcases List.mem_cons.mp q with q | q
    · rw [q, C.gL] at e; cases e
    · rw [sf b q] at e; cases e
theorem Cx.rootF (C : Cx g W h0 L m h) (n : ∀ x ∈ frs fs, x ∉ W) (nl : L ∉ frs fs) : KeepF (L :: W) fs h0 h := C.k.toF fun x q z => (List.mem_cons.mp z).elim (fun y => nl (y ▸ q)) (n x q)
theorem FF.ninW (x : FF W h fs) : ∀ y ∈ frs fs, y ∉ W := fun _ q => (x.mem q).1
theorem FF.ninL (x : FF W h fs) (n : h.get? L = none) : L ∉ frs fs := fun q => by obtain ⟨_, o, e⟩ := x.mem q; rw [n] at e; cases e
theorem goffs (C : Cx g W h0 L m h) (sf : ∀ x ∈ frs fs, g.get? x = none) (hf : env.frame = some L) : ∀ x ∈ frs (env :: fs), g.get? x = none := fun x q => by
  rw [frs_cons hf] at q
  rcases List.mem_cons.mp q with q | q
  · rw [q]; exact C.gL
  · exact sf x q
structure Tb (h : Heap) : Prop where
  a : Lt h 232 primPos primQual
  b : Lt h 379 nmPos nmQual
  c : Lt h 735 rbPos rbQual
theorem Tb.go {X : List Addr} (x : Tb h) (k : Keep2 X h h') (n : ∀ y ∈ X, y ≠ 232 ∧ y ≠ 379 ∧ y ≠ 735) : Tb h' :=
  ⟨x.a.go k fun q => (n _ q).1 rfl, x.b.go k fun q => (n _ q).2.1 rfl, x.c.go k fun q => (n _ q).2.2 rfl⟩
theorem KeepF.keep2 (k : KeepF X fs h h') : Keep2 (X ++ frs fs) h h' := ⟨fun b o e n => k.keep b o e (fun q => n (List.mem_append_left _ q)) fun q => n (List.mem_append_right _ q), k.live, k.stab⟩
theorem Lt.goF {P : Addr} {pos : Pos} {qual : PySem.Str} {X : List Addr} (x : Lt h P pos qual) (k : KeepF X fs h h') (n : P ∉ X) (nf : P ∉ frs fs) : Lt h' P pos qual := by
  obtain ⟨ps, e, y⟩ := x
  exact ⟨ps, k.keep _ _ e n nf, y.elim .inl fun ⟨c', a, b⟩ => .inr ⟨c', a, codeRec_go (k.keep2) b⟩⟩
end
section
variable {w : World} {g h h' h0 : Heap} {W : List Addr} {L : Addr} {m : PySem.Str → Option Value}
theorem ne_obj {h : Heap} {a b : Addr} {o o' : Obj} (e : h.get? a = some o) (e' : h.get? b = some o') (n : o ≠ o') : a ≠ b := fun q => n (by rw [q, e'] at e; exact (Option.some.inj e).symm)
theorem dict_len {es es' : List DictEntry} {n n' : Nat} (l : es.length ≠ es'.length) : dictOf es n ≠ dictOf es' n' := fun q => by
  have := congrArg (fun o : Obj => match o with | ⟨_, _, .dict es _, _⟩ => es.size | _ => 0) q
  simp at this
  exact l this
theorem ns_ne {a : Addr} {o : Obj} (hn : h.Ns L m) (e : h.get? a = some o) (n : ∀ es ep, o.data ≠ .dict es ep) : a ≠ L := fun q => by
  obtain ⟨o', es, ep, e', d, _⟩ := hn
  rw [q, e'] at e; cases e
  exact n _ _ d
abbrev hl (L D : Addr) : List Addr := [L, D, 232, 379, 735]
theorem hid {D tl : Addr} {p : Nat} {nd : Value} {a : Addr} {o : Obj} (H : RD w h D tl p nd) (tb : Tb h) (e : h.get? a = some o) (nL : a ≠ L)
    (n1 : ∀ t0 t1 t2 t3 n, o ≠ dictOf (rdict w tl p nd t0 t1 t2 t3) n) (n2 : ∀ ps, o ≠ tabObj ps) : (hideAll h (hl L D)).get? a = some o := by
  obtain ⟨a0, a1, a2, a3, n, eD⟩ := H
  obtain ⟨⟨ps, e1, _⟩, ⟨ps2, e2, _⟩, ⟨ps3, e3, _⟩⟩ := tb
  refine hideAll_get _ e fun q => ?_
  simp only [List.mem_cons, List.not_mem_nil, or_false] at q
  rcases q with q | q | q | q | q
  · exact nL q
  · exact ne_obj e eD (n1 _ _ _ _ _) q
  · exact ne_obj e e1 (n2 _) q
  · exact ne_obj e e2 (n2 _) q
  · exact ne_obj e e3 (n2 _) q
theorem TokD.hid {D tl da : Addr} {p i : Nat} {nd v : Value} {t : Tx} (x : TokD w h v i t da) (hn : h.Ns L m) (nL : da ≠ L) (H : RD w h D tl p nd) (tb : Tb h) : TokAt w (hideAll h (hl L D)) v i t := by
  obtain ⟨a, ata, k0, k1, k2, k3, k4, k5, k6, k7, n, e, e1, e2, e3⟩ := x
  exact ⟨a, da, ata, k0, k1, k2, k3, k4, k5, k6, k7, n, e, Mine.hid H tb e1 (ns_ne hn e1 fun _ _ q => nomatch q) (fun _ _ _ _ _ q => nomatch congrArg Obj.data q) (fun _ q => nomatch congrArg Obj.data q),
    Mine.hid H tb e2 nL (fun _ _ _ _ _ => dict_len (by simp [tdict, rdict])) (fun _ q => nomatch congrArg Obj.data q), Mine.hid H tb e3 (ns_ne hn e3 fun _ _ q => nomatch q) (fun _ _ _ _ _ q => nomatch congrArg Obj.data q) (fun _ q => nomatch congrArg Obj.data q)⟩
theorem RS.make {r D tl : Addr} {p n : Nat} {nd : Value} {vs : List Value} {ts : List Tx} (hn : h.Ns L m) (H : RD w h D tl p nd) (tb : Tb h) (er : h.get? r = some (instObj 642 D)) (el : h.get? tl = some (listOf vs.toArray n))
    (tk : ∀ (i : Nat) (t : Tx), ts[i]? = some t → ∃ v, vs[i]? = some v ∧ ∃ da, TokD w h v i t da ∧ da ≠ L) (len : vs.length = ts.length) (few : ts.length < 2 ^ 20) : RS w (hideAll h (hl L D)) r D tl nd vs ts :=
  ⟨hid H tb er (ns_ne hn er fun _ _ q => nomatch q) (fun _ _ _ _ _ q => nomatch congrArg Obj.data q) (fun _ q => nomatch congrArg Obj.data q), ⟨n, hid H tb el (ns_ne hn el fun _ _ q => nomatch q) (fun _ _ _ _ _ q => nomatch congrArg Obj.data q) (fun _ q => nomatch congrArg Obj.data q)⟩,
    fun i t e => let ⟨v, a, da, b, c⟩ := tk i t e; ⟨v, a, b.hid hn c H tb⟩, len, few⟩
theorem NmD.make {D tl N : Addr} {p n : Nat} {nd : Value} {t : Tok} (nL : N ≠ L) (H : RD w h D tl p nd) (tb : Tb h) (e : h.get? N = some (dictOf [⟨kh w "DONE", .str "DONE" t, .bool true⟩] n)) (ne : (N == sysModules) = false) : NmD w (hideAll h (hl L D)) N :=
  ⟨⟨t, n, hid H tb e nL (fun _ _ _ _ _ => dict_len (by simp [rdict])) (fun _ q => nomatch congrArg Obj.data q)⟩, ne⟩
theorem TokD.nin {v : Value} {i : Nat} {t : Tx} {da D tl : Addr} {p : Nat} {nd : Value} (x : TokD w h v i t da) (H : RD w h D tl p nd) (tb : Tb h) (nL : da ≠ L) : da ∉ hl L D := by
  obtain ⟨a, ata, k0, k1, k2, k3, k4, k5, k6, k7, m, e, e1, e2, e3⟩ := x
  obtain ⟨a0, a1, a2, a3, n, eD⟩ := H
  obtain ⟨⟨ps, u1, _⟩, ⟨ps2, u2, _⟩, ⟨ps3, u3, _⟩⟩ := tb
  intro q
  simp only [List.mem_cons, List.not_mem_nil, or_false] at q
  rcases q with q | q | q | q | q
  · exact nL q
  · exact ne_obj e2 eD (dict_len (by simp [tdict, rdict])) q
  · exact ne_obj e2 u1 (fun z => nomatch z) q
  · exact ne_obj e2 u2 (fun z => nomatch z) q
  · exact ne_obj e2 u3 (fun z => nomatch z) q
theorem Cx.addW {D : Addr} (C : Cx g W h0 L m h) (gD : g.get? D = none) (lD : ∃ o, h.get? D = some o) (nD : D ≠ L) : Cx g (D :: W) h L m h :=
  ⟨C.ns, ⟨C.st.sub, fun a q => (List.mem_cons.mp q).elim (fun y => y ▸ gD) (C.st.off a), fun a q => (List.mem_cons.mp q).elim (fun y => y ▸ lD) (C.st.live a)⟩, fun q => (List.mem_cons.mp q).elim (fun y => nD y.symm) C.nL, C.gL, .refl⟩
theorem Cx.ground {D : Addr} (C : Cx g [D, 232, 379, 735] h0 L m h) : Cx (hideAll h (hl L D)) [D, 232, 379, 735] h L m h :=
  ⟨C.ns, ⟨fun b o e => of_hideAll _ e, fun a q => hideAll_none _ (.tail _ q), C.st.live⟩, C.nL, hideAll_none _ (.head _), .refl⟩
theorem Gd.ground {D : Addr} (G : Gd w g) (C : Cx g [D, 232, 379, 735] h0 L m h) : Gd w (hideAll h (hl L D)) :=
  G.keeps fun b o e => hideAll_get _ (C.st.sub b o e) fun q => by
    rcases List.mem_cons.mp q with q | q
    · rw [q, C.gL] at e; cases e
    · rw [C.st.off b q] at e; cases e
theorem Tb.go0 (k : Keep2 [] h h') (x : Tb h) : Tb h' := x.go k fun y q => absurd q List.not_mem_nil
theorem Tb.ne (x : Tb h) (n : h.get? L = none) : L ≠ 232 ∧ L ≠ 379 ∧ L ≠ 735 := by
  obtain ⟨ps, u1, _⟩ := x.a
  obtain ⟨ps2, u2, _⟩ := x.b
  obtain ⟨ps3, u3, _⟩ := x.c
  exact ⟨fun q => (by rw [q, u1] at n; cases n), fun q => (by rw [q, u2] at n; cases n), fun q => (by rw [q, u3] at n; cases n)⟩
theorem Tb.sto (k : Keep2 [L] h h') (hn : h.Ns L m) (x : Tb h) : Tb h' := x.go k fun y q => by
  rw [List.mem_singleton.mp q]
  exact ⟨x.a.ne_ns hn, x.b.ne_ns hn, x.c.ne_ns hn⟩
end
theorem set_named {h0 : Heap} {L : Addr} {m : PySem.Str → Option Value} {Q : Unit → Shared → Prop} {v : Value} (G : Gd w g) (C : Cx g W h0 L m s.heap) (hi : s.heap.get? r = some (instObj 642 D)) (H : RD w s.heap D tl p nd) (hD : D ∈ W)
    (h : ∀ h', Cx g W h0 L m h' → RD w h' D tl p v → Keep2 [D, L] s.heap h' → Q () { s with heap := h', toks := s.toks + 2 }) : wpAny (MM w) A (setAttr (.ref r) "named" v) Q E s := by
  refine bc fun hGo => ?_
  obtain ⟨t0, t1, t2, t3, n, e⟩ := H
  refine hGo ?_; clear hGo
  refine set_attr (es' := rdict w tl p v t0 t1 t2 t3) (n' := n) G C hi e hD (by kernel_rfl) (by kernel_rfl) (by kernel_rfl) (by kernel_rfl) rfl (by rfl) (by simp [rdict]) fun h' C' k e' => h h' C' ⟨_, _, _, _, _, e'⟩ k
theorem Keep2.toHl {h h' : Heap} {L D : Addr} {X : List Addr} (k : Keep2 X h h') (s : ∀ x ∈ X, x ∈ hl L D) : Keep2 (hl L D) h h' := k.more s
theorem Keep2.unHl {h h' : Heap} {L D : Addr} (k : Keep2 (hl L D) h h') (nL : h.get? L = none) (nD : h.get? D = none) : Keep2 [232, 379, 735] h h' :=
  ⟨fun b o e n => k.keep b o e fun q => by
    rcases List.mem_cons.mp q with q | q
    · rw [q, nL] at e; cases e
    rcases List.mem_cons.mp q with q | q
    · rw [q, nD] at e; cases e
    · exact n q, k.live, k.stab⟩
theorem hidn {h : Heap} {L D tl a : Addr} {p : Nat} {nd : Value} {o : Obj} (H : RD w h D tl p nd) (tb : Tb h) (e : h.get? a = some o) (nL : a ≠ L) (n1 : ∀ t0 t1 t2 t3 n, o ≠ dictOf (rdict w tl p nd t0 t1 t2 t3) n) (n2 : ∀ ps, o ≠ tabObj ps) : a ∉ hl L D := fun q => by
  have := hid H tb e nL n1 n2
  rw [hideAll_none _ q] at this; cases this
abbrev laid (hd : List PySem.Str) (us : List Tx) : List Tx := hd.map wd ++ us ++ [ofString "CONTINUE"].map wd ++ [sg (ofString ".")]
theorem laid_us {hd : List PySem.Str} {us : List Tx} : Sits (laid hd us) us hd.length := fun i t e => by
  have hi := (List.getElem?_eq_some_iff.mp e).1
  rw [List.getElem?_append_left (by simp; omega), List.getElem?_append_left (by simp; omega), List.getElem?_append_right (by simp)]
  simpa using e
theorem laid_cont {hd : List PySem.Str} {us : List Tx} : (laid hd us)[hd.length + us.length]? = some (wd (ofString "CONTINUE")) := by
  rw [List.getElem?_append_left (by simp), List.getElem?_append_right (by simp)]
  simp
theorem laid_pt {hd : List PySem.Str} {us : List Tx} : (laid hd us)[hd.length + us.length + 1]? = some (sg (ofString ".")) := by
  have e : (hd.map wd ++ us ++ [ofString "CONTINUE"].map wd).length = hd.length + us.length + 1 := by simp; omega
  rw [List.getElem?_append_right (by omega), e, Nat.sub_self]
  rfl
theorem laid_hd {hd : List PySem.Str} {us : List Tx} {i : Nat} {x : PySem.Str} (e : hd[i]? = some x) : (laid hd us)[i]? = some (wd x) := by
  have hi := (List.getElem?_eq_some_iff.mp e).1
  rw [List.getElem?_append_left (by simp; omega), List.getElem?_append_left (by simp; omega), List.getElem?_append_left (by simp; omega), List.getElem?_map, e]
  rfl
theorem laid_ends {hd : List PySem.Str} {us : List Tx} (l : hd.length + us.length < 2 ^ 29) : Ends (laid hd us) (hd.length + us.length) :=
  ⟨⟨_, laid_cont, by kernel_rfl⟩, (tok_of_some laid_cont).trans (by kernel_rfl), (tok_of_some laid_cont).trans (by kernel_rfl), l⟩
theorem laid_ne {hd : List PySem.Str} {us : List Tx} (l : 0 < us.length) : ∃ t, (laid hd us)[hd.length]? = some t := ⟨us[0], by
  have := laid_us (hd := hd) (us := us) 0 us[0] (List.getElem?_eq_getElem l)
  simpa using this⟩
theorem sh_body : Sh (.tuple [.tuple [.str (ofString "when 0"), contD]]) 4 :=
  .tuple (sh_cons (.tuple (sh_cons ((Sh.str (by kernel_rfl)).mono (Nat.zero_le _)) (sh_cons (.tuple (n := 1) (sh_cons (.tuple (n := 0) (sh_cons (Sh.str (by kernel_rfl)) sh_nil)) sh_nil)) sh_nil))) sh_nil)
theorem sh_all {d : PyData} {n : Nat} (h : Sh d (3 + n)) : Sh (.tuple [.str (ofString "search-all"), refD (ofString "T"), d, .tuple [.tuple [.str (ofString "when 0"), contD]]]) (4 + n + 1) :=
  .tuple (sh_cons ((Sh.str (by kernel_rfl)).mono (Nat.zero_le _)) (sh_cons ((sh_ref (by kernel_rfl)).mono (by omega)) (sh_cons (h.mono (by omega)) (sh_cons (sh_body.mono (by omega)) sh_nil))))
theorem sh_plain {d : PyData} {n : Nat} (h : Sh d (3 + n)) : Sh (.tuple [.str (ofString "search"), refD (ofString "T"), .none, .tuple [d], .tuple [.tuple [.str (ofString "when 0"), contD]]]) (4 + n + 1) :=
  .tuple (sh_cons ((Sh.str (by kernel_rfl)).mono (Nat.zero_le _)) (sh_cons ((sh_ref (by kernel_rfl)).mono (by omega)) (sh_cons (Sh.none.mono (Nat.zero_le _)) (sh_cons ((Sh.tuple (sh_cons h sh_nil)).mono (by omega)) (sh_cons (sh_body.mono (by omega)) sh_nil)))))
theorem eq_told {a b : Addr} {d : PyData} {n : Nat} {Q : Value → Shared → Prop} (sh : Sh d n) (ra : At s.heap (.ref a) d) (rb : At s.heap (.ref b) d) (hn : n ≤ 64) (hu : A.units + 64 < cLine) (h : Q (.bool true) s) : wpAny (MM w) A (compareOp .Eq (.ref a) (.ref b)) Q E s :=
  PyProof.Rows.eq_dataH ra rb (sh.shaped hn) (sh.shaped hn) hu (by rw [sh.eqv]; exact h)
theorem FF.ne_list {h : Heap} {fs : List Env} {l : Addr} {vs : Array Value} (ff : FF W h fs) (x : h.IsList l vs) : l ∉ frs fs := fun q => by
  obtain ⟨env, a, e⟩ := List.mem_filterMap.mp q
  obtain ⟨_, L, m, e', ns, _⟩ := ff env a
  rw [e] at e'; cases e'
  exact list_ne_L x ns rfl
theorem TokL.hl {h h' : Heap} {L D tl l : Addr} {p : Nat} {nd : Value} {us : List Tx} {m : PySem.Str → Option Value} (k : Keep2 (Mine.hl L D) h h') (H : RD w h D tl p nd) (tb : Tb h) (hn : h.Ns L m) (x : TokL h l us) : TokL h' l us := by
  obtain ⟨vs, n, e, i⟩ := x
  exact ⟨vs, n, k.keep _ _ e (hidn H tb e (list_ne_L (list_at e) hn) (fun _ _ _ _ _ q => nomatch congrArg Obj.data q) (fun _ q => nomatch congrArg Obj.data q)), i.go k⟩
theorem TokL.goF {h h' : Heap} {X : List Addr} {fs : List Env} {l : Addr} {us : List Tx} (k : KeepF X fs h h') (ff : FF W h fs) (nX : ∀ x ∈ X, ∀ o, h.get? x = some o → ∀ vs n, o ≠ listOf vs n) (x : TokL h l us) : TokL h' l us := by
  obtain ⟨vs, n, e, i⟩ := x
  exact ⟨vs, n, k.keep _ _ e (fun q => nX _ q _ e _ _ rfl) (ff.ne_list (list_at e)), i.go k.keep2⟩
theorem Tb.nolist {h : Heap} (tb : Tb h) : ∀ x ∈ ([232, 379, 735] : List Addr), ∀ o, h.get? x = some o → ∀ vs n, o ≠ listOf vs n := fun x q o e vs n y => by
  obtain ⟨ps, u1, _⟩ := tb.a
  obtain ⟨ps2, u2, _⟩ := tb.b
  obtain ⟨ps3, u3, _⟩ := tb.c
  simp only [List.mem_cons, List.not_mem_nil, or_false] at q
  subst y
  rcases q with q | q | q
  · rw [q, u1] at e; exact nomatch congrArg (Option.map Obj.data) e
  · rw [q, u2] at e; exact nomatch congrArg (Option.map Obj.data) e
  · rw [q, u3] at e; exact nomatch congrArg (Option.map Obj.data) e
theorem RD.nolist {h : Heap} {D tl : Addr} {p : Nat} {nd : Value} (H : RD w h D tl p nd) (tb : Tb h) : ∀ x ∈ ([D, 232, 379] : List Addr), ∀ o, h.get? x = some o → ∀ vs n, o ≠ listOf vs n := fun x q o e vs n y => by
  rcases List.mem_cons.mp q with q | q
  · obtain ⟨a0, a1, a2, a3, n', eD⟩ := H
    subst y
    rw [q, eD] at e; exact nomatch congrArg (Option.map Obj.data) e
  · exact tb.nolist x (List.mem_append_left [735] q) o e vs n y
theorem len_tok {l : Addr} {us : List Tx} {k : Nat} {Q : Value → Shared → Prop} (x : TokL s.heap l us) (hk : us.length = k) (hz : k < 1000) (h : ∀ t tk, Q (.int (k : Int) t) { s with toks := tk }) : wpAny (MM w) A (call (.builtin "len") [.ref l]) Q E s := by
  refine bc fun hGo => ?_
  obtain ⟨vs, n, e, i⟩ := x
  refine hGo ?_; clear hGo
  have l := i.1
  exact call_len_list (list_at e) (by rw [List.size_toArray]; omega) (by rw [List.size_toArray, l, hk]; exact h _ _)
theorem said101 : True := by
  k_with "m:tl" => first | assumption | exact TokL.go ‹_› (by walk_at "tl") List.not_mem_nil | exact TokL.sto ‹_› ‹_› (by walk_at "tl") | fail "tl"
  k_with "m:tb" => first | assumption | exact Tb.go0 ‹_› (by walk_at "tb") | exact Tb.sto ‹_› (Cx.ns ‹_›) (by walk_at "tb") | fail "tb"
  k_with "m:more" => (first | have Tₘ := Ats.go ‹_› ‹_› | skip)
  k_with "m:binaryOp Add ref ref" => (walk_plain_pass; (refine cat_toks (by walk_at "tl") (by walk_at "tl") (by simp <;> omega) ?_; intro aₘ hₘ nₘ kₘ lₘ; have zₘ := Cx.none_of ‹_› nₘ; have Cₘ := Cx.gs ‹_› kₘ; walk_at "more"; try dsimp only))
  k_with "m:call ref" => (walk_plain_pass; ((with_reducible show wpAny _ _ (call (Value.ref 700) _) _ _ _); (first | ((with_reducible show wpAny _ _ (call (Value.ref 700) [Value.str (ofString "CONTINUE") _]) _ _ _); refine C_words (ws := [ofString "CONTINUE"]) ‹_› (Cx.st ‹_›) ‹_› (by walk_at "dp") (by kernel_rfl!) (by decide) (by kernel_rfl!) (by decide) ?_) | ((with_reducible show wpAny _ _ (call (Value.ref 700) [Value.str (ofString "SEARCH ALL T WHEN") _]) _ _ _); refine C_words (ws := [ofString "SEARCH", ofString "ALL", ofString "T", ofString "WHEN"]) ‹_› (Cx.st ‹_›) ‹_› (by walk_at "dp") (by kernel_rfl!) (by decide) (by kernel_rfl!) (by decide) ?_) | ((with_reducible show wpAny _ _ (call (Value.ref 700) [Value.str (ofString "SEARCH T WHEN") _]) _ _ _); refine C_words (ws := [ofString "SEARCH", ofString "T", ofString "WHEN"]) ‹_› (Cx.st ‹_›) ‹_› (by walk_at "dp") (by kernel_rfl!) (by decide) (by kernel_rfl!) (by decide) ?_) | fail "words"); (intro aₘ hₘ tkₘ nₘ kₘ lₘ; have zₘ := Cx.none_of ‹_› nₘ; have Cₘ := Cx.gs ‹_› kₘ; (first | have Hₘ := RD.gs ‹_› kₘ List.not_mem_nil | skip); walk_at "more"; try dsimp only)))
  k_with "m:call ref" => (walk_plain_pass; ((with_reducible show wpAny _ _ (call (Value.ref 712) _) _ _ _); (refine C_item ‹_› (Cx.st ‹_›) (by walk_at "dp") ?_; intro aₘ hₘ tkₘ kₘ iₘ; have Cₘ := Cx.gs ‹_› kₘ; (first | have Hₘ := RD.gs ‹_› kₘ List.not_mem_nil | skip); have Tₘ := Ats.add (Ats.go kₘ ‹_›) iₘ; try dsimp only)))
  k_with "m:exec Try" => refine wpAny_Try_except ?_
  k_with "m:exec Assign" => (with_reducible refine wpAny_Assign_Name ?_ (by with_unfolding_all rfl))
  trivial
theorem C_right_all {a l : Addr} {dv : Value} {us : List Tx} {d : PyData} {b : Bool} {n : Nat} {fs : List Env} {Q : Value → Shared → Prop} (G : Gd w g) (S : St g W s.heap) (hW : ∀ x ∈ ([232, 379, 735] : List Addr), x ∈ W) (hh : A.handled = none) (hd : A.depth + 60 + 10 * n < recursionLimit) (hu : A.units + 200 < cLine) (tb : Tb s.heap) (ca : CondAt s.heap a l dv us d b) (lw : Law us d b n) (hn : n ≤ 9) (hfr : A.frames = some fs) (ff : FF [232, 379, 735] s.heap fs) (gf : ∀ x ∈ frs fs, g.get? x = none)
    (h : ∀ h' tk, KeepF [232, 379, 735] fs s.heap h' → Tb h' → Q (.bool true) { s with heap := h', toks := tk }) : wpAny (MM w) A (call (.ref 740) [.ref a, .bool true]) Q E s := by
  w_top off
  have S1 : St g [232, 379, 735] s.heap := S.less hW
  refine enterN (W := [232, 379, 735]) [("cond", .ref a), ("is_all", .bool true)] G S1 ((fn_at G S (f740 w)).trans rfl) (by kernel_rfl) (by walk_at "dq") (BindsTo.of_eq rfl) (locs rfl) ?_ (by rfl)
  intro L h₁ tk C nL k0
  have ca1 : CondAt h₁ a l dv us d b := ca.go0 (Keep2.all (W := []) k0)
  have ea1 := ca1.1
  have tl1 := ca1.2.1
  have T0 : Ats h₁ [(dv, d)] := Ats.nil.add ca1.2.2
  have tb1 : Tb h₁ := tb.go0 (Keep2.all (W := []) k0)
  have lz := lw.few
  have lp := lw.pos
  repeat walk1
  refine C_lawreader (ts := laid [ofString "SEARCH", ofString "ALL", ofString "T", ofString "WHEN"] us) G (Cx.st (by assumption)) hh (by walk_at "dp") (by walk_at "tl") (by simp; omega) fun r D tl N vs n5 h5 tk5 k5 nr nD ntl nN er H5 el tks len => ?_
  have C5 := Cx.gs (by assumption) k5
  refine bc fun hGo => ?_
  obtain ⟨zD, gD, wD, lD⟩ := Cx.none_of (by assumption) nD
  obtain ⟨zl, gl, wl, ll⟩ := Cx.none_of (by assumption) ntl
  refine hGo ?_; clear hGo
  have tks5 : ∀ (i : Nat) (t : Tx), (laid [ofString "SEARCH", ofString "ALL", ofString "T", ofString "WHEN"] us)[i]? = some t → ∃ v, vs[i]? = some v ∧ ∃ da, TokD w h5 v i t da ∧ da ≠ L := fun i t e => by
    obtain ⟨v, e1, da, x1, nd⟩ := tks i t e
    exact ⟨v, e1, da, x1, (Cx.none_of (by assumption) nd).2.2.2⟩
  have tb5 : Tb h5 := Tb.go0 k5 (by walk_at "tb")
  have T5 := Ats.go k5 (by assumption)
  have K05 : Keep2 (L :: [232, 379, 735]) s.heap h5 := C5.k
  have K0z : Keep2 (hl L D) s.heap h5 := K05.more fun x q => (List.mem_cons.mp q).elim (fun y => y ▸ .head _) fun z => .tail _ (.tail _ z)
  have C6 := Cx.addW C5 gD H5.live lD
  clear C5
  try dsimp only
  repeat ((fail_if_success (with_reducible show wpAny _ _ (eval (.Dict _ _ _) _) _ _ _)); walk1)
  refine new_named (Nat.lt_trans (by decide : 1 < 740) (Heap.lt_size (fn_at G (Cx.st (by assumption)) (f740 w)))) fun N2 h7 tk7 t7 n7 k7 nN2 sm eN2 => ?_
  have C7 := Cx.gs (by assumption) k7
  have H7 := RD.gs (by assumption) k7 List.not_mem_nil
  have T7 := Ats.go k7 (by assumption)
  refine bc fun hGo => ?_
  obtain ⟨zN, gN, wN, lN⟩ := Cx.none_of (by assumption) nN2
  refine hGo ?_; clear hGo
  try dsimp only
  repeat ((fail_if_success (with_reducible show wpAny _ _ (setAttr _ _ _) _ _ _)); walk1)
  refine set_named G (by assumption) (by walk_at "stab") (by assumption) (.head _) fun h8 C8 H8 k8 => ?_
  have e8 := k8.keep _ _ eN2 (nin22 (fun q => wN (q ▸ .head _)) lN)
  have tb8 : Tb h8 := Tb.go (by walk_at "tb") k8 (fun y q => by
    rcases List.mem_cons.mp q with q | q
    · exact q ▸ Tb.ne tb zD
    · exact List.mem_singleton.mp q ▸ Tb.ne tb nL)
  have T8 := Ats.go k8 T7
  have K58 : Keep2 (L :: [D, 232, 379, 735]) h5 h8 := C8.k
  replace C8 := C8.root
  clear C7 H7
  try dsimp only
  repeat walk1
  rename Heap => h9
  rename Cx g [D, 232, 379, 735] h8 _ _ h9 => C9
  rename RD w h9 D tl 0 (Value.ref N2) => H9
  rename Ats h9 _ => T9
  have tb9 : Tb h9 := by walk_at "tb"
  have K89 : Keep2 (L :: [D, 232, 379, 735]) h8 h9 := C9.k
  have K59 := K58.trans K89
  have G9 := G.ground C9
  have el9 : h9.get? tl = some (listOf vs.toArray n5) := K59.keep _ _ el (hidn H5 tb5 el ll (fun _ _ _ _ _ q => nomatch congrArg Obj.data q) (fun _ q => nomatch congrArg Obj.data q))
  have R9 : RS w (hideAll h9 (hl L D)) r D tl (.ref N2) vs (laid [ofString "SEARCH", ofString "ALL", ofString "T", ofString "WHEN"] us) :=
    RS.make C9.ns H9 tb9 (K59.stab _ _ trivial er) el9 (fun i t e => let ⟨v, e1, da, x1, n1⟩ := tks5 i t e; ⟨v, e1, da, x1.goZ (K59.z fun _ q => q) (x1.nin H5 tb5 n1), n1⟩) len (by simp; omega)
  have N9 : NmD w (hideAll h9 (hl L D)) N2 := NmD.make lN H9 tb9 (K89.keep _ _ e8 (hidn H8 tb8 e8 lN (fun _ _ _ _ _ => dict_len (by simp [rdict])) (fun _ q => nomatch congrArg Obj.data q))) sm
  have X9 := Cx.ground C9
  generalize hideAll h9 (hl L D) = g9 at G9 R9 N9 X9
  refine kla_eval rfl ?_
  refine mk_lam (P := 735) (c := 739) (pos := rbPos) G9 X9 (by simp) tb9.c (by kernel_rfl) (by rfl) (by rfl) (by rfl) ?_
  intro f c' ctv pm h10 tk10 C10 k10 lc10 rc ef
  have rb10 : RbF h10 f := ⟨_, _, _, ef, rc⟩
  have H10 := RD.gs H9 k10 (nin1 (tb9.c.ne_rd H9))
  have tb10 : Tb h10 := ⟨tb9.a.go k10 (by decide), tb9.b.go k10 (by decide), lc10⟩
  have T10 := Ats.go k10 T9
  try dsimp only
  repeat walk1
  have hE : Ends (laid [ofString "SEARCH", ofString "ALL", ofString "T", ofString "WHEN"] us) (4 + us.length) := laid_ends (hd := [ofString "SEARCH", ofString "ALL", ofString "T", ofString "WHEN"]) (by simp; omega)
  have hS : Spec 299 24 w (laid [ofString "SEARCH", ofString "ALL", ofString "T", ofString "WHEN"] us) n (0 + 1 + 1 + 1 + 1) (4 + us.length) d := ((lw.cd _ 4 (laid_us (hd := [ofString "SEARCH", ofString "ALL", ofString "T", ofString "WHEN"])) hE).spec (w := w)).2.2 rfl
  have hpt := laid_pt (hd := [ofString "SEARCH", ofString "ALL", ofString "T", ofString "WHEN"]) (us := us)
  have hct := laid_cont (hd := [ofString "SEARCH", ofString "ALL", ofString "T", ofString "WHEN"]) (us := us)
  cases b with
  | true =>
    refine C_read_search_all (n := n) (q := 4 + us.length) (d := d) G9 (Cx.st C10) R9 H10 (by simp) hh (by first | walk_at "dr" | (show A.depth + 1 + 41 + 10 * n < _; omega)) (by decide) (by show A.units + 3 + 90 < cLine; omega) tb10.a tb10.b rfl N9 rb10 (by omega) (laid_hd rfl) (laid_hd rfl) (laid_hd rfl) (laid_hd rfl) hS (KSpec.mono (lw.key w) (by omega)) hct hpt fun a11 h11 tk11 k11 H11 lt11 lu11 t11 => ?_
    have C11 := Cx.go C10 k11 (by simp)
    have T11 := (Ats.go k11 T10).add t11
    have tb11 : Tb h11 := ⟨lt11, lu11, tb10.c.go k11 (nin333 (Ne.symm (tb10.c.ne_rd H10)) (by decide) (by decide))⟩
    try dsimp only
    repeat walk1
    refine eq_told (sh_all lw.sh) (by walk_at "at2") (by walk_at "at2") (by omega) (by show A.units + 3 + 64 < cLine; omega) ?_
    repeat walk1
    try dsimp only
    rename Heap => h12
    rename Cx g9 _ h9 _ _ h12 => C12
    have tb12 : Tb h12 := by walk_at "tb"
    have Kz : Keep2 (hl L D) s.heap h12 := K0z.trans (K59.trans C12.k)
    exact h _ _ ((Kz.unHl nL zD).toF ff.ninW) tb12
  | false =>
    have K9t : Keep2 (hl L D) s.heap h10 := K0z.trans (K59.trans C10.k)
    have ff0 : FF (hl L D) s.heap fs := ff.wider fun b q => by
      rcases List.mem_cons.mp q with q | q
      · exact .inr (q ▸ nL)
      rcases List.mem_cons.mp q with q | q
      · exact .inr (q ▸ zD)
      · exact .inl q
    have ff9 : FF [D, 232, 379] h10 fs := (ff0.go K9t fun b q => .inl q).less (by simp)
    have ff10 : ∀ env : Env, env.scope.kind ≠ .module → env.frame = some L → FF [D, 232, 379] h10 (env :: fs) := fun env hk hf => ff9.cons C10 (fun q => C10.nL (List.mem_append_left [735] q)) hk hf
    refine C_read_search_no (n := n) (q := 4 + us.length) (d := d) (fs := _ :: fs) G9 (Cx.st C10) R9 H10 (by simp) hh (by first | walk_at "dr" | (show A.depth + 1 + 41 + 10 * n < _; omega)) (by decide) (by show A.units + 3 + 90 < cLine; omega) tb10.a tb10.b rfl N9 rb10 (by omega) (laid_hd rfl) (laid_hd rfl) (laid_hd rfl) (laid_hd rfl) hS (KSpec.mono (lw.key w) (by omega)) hct hpt (laid_ne lp) (Around.frames_deeper hfr) (ff10 _ (fun q => nomatch q) rfl) fun e de h11 tk11 F lt11 lu11 => ?_
    refine note_next (Around.frames_deeper hfr) rfl (ff10 _ (fun q => nomatch q) rfl) F fun h12 F12 q12 => ?_
    refine flight_off F12 fun h13 F13 q13 => ?_
    have C10g := Cx.swap C9 C10
    have C13 := C10g.aF F13.toF rfl (fun x q => C10g.st.off x (List.mem_append_left [735] q)) gf
    refine wpAny_handleBy_cons ?_ (by intro q; cases q)
    refine codeAny_handlers_test ?_
    have C10k : Keep2 (hl L D) h9 h10 := C10.k
    clear C10 X9 G9 R9 N9
    walk1
    have hC : h13.get? 72 = some gfObj := C13.st.sub _ _ (G.K _ _ (gf_at w))
    refine bc fun hGo => ?_
    obtain ⟨oe, vs', T, oT, ts', he, hc, hdi, hdt, hr⟩ := F13.exc
    refine hGo ?_; clear hGo
    refine wpAny_excMatches_sub_self hC he hc (by kernel_rfl) ?_
    show codeAny _ _ _ _ _
    refine codeAny_handlers_suite_as ?_
    refine flight_off F13 fun h14 F14 q14 => ?_
    have C14 := C10g.aF F14.toF rfl (fun x q => C10g.st.off x (List.mem_append_left [735] q)) gf
    clear C13
    refine store C14 (fun h15 C15 k15 => ?_) (by kernel_rfl!) (by kernel_rfl!)
    refine bc fun hGo => ?_
    obtain ⟨oe2, vs2, T2, oT2, ts2, he2, hc2, hdi2, hdt2, _⟩ := F14.exc
    obtain ⟨es, n15, v15, hd14, hl15, at14⟩ := F14.told.at_
    refine hGo ?_; clear hGo
    have eL : e ≠ L := fun q => by obtain ⟨o, _, _, z, _⟩ := C10g.ns; have z' := F14.new; rw [q, z] at z'; cases z'
    have dL : de ≠ L := fun q => by obtain ⟨o, _, _, z, _⟩ := C10g.ns; have z' := F14.newd; rw [q, z] at z'; cases z'
    have he15 := k15.keep _ _ he2 (nin1 eL)
    have hd15 := k15.keep _ _ hd14 (nin1 dL)
    obtain ⟨a15, rfl⟩ : ∃ a, v15 = .ref a := by cases at14; exact ⟨_, rfl⟩
    have T15 : Ats h15 [(.ref a15, .tuple [.int 5, .int 12])] := Ats.nil.add (at14.go k15)
    have goT : ∀ x us, TokL h5 x us → TokL h15 x us := fun x us z => (TokL.goF F14.toF (ff10 _ (fun q => nomatch q) rfl) (H10.nolist tb10) (z.hl (K59.trans C10k) H5 tb5 C6.ns)).sto k15 C14
    try dsimp only
    repeat ((fail_if_success (with_reducible show wpAny _ _ (getAttr _ _ _) _ _ _)); walk1)
    refine gf_get (C' := 0) (G.keeps C15.st.sub).K he15 hc2 hdi2 (by unfold notCls; rw [hdt2]) hd15 hl15 rfl ?_
    repeat walk1
    refine len_tok (k := 4) (goT _ _ (by walk_at "tl")) (by rfl) (by decide) fun t tk => ?_
    repeat walk1
    refine eq_told (n := 1) (d := .tuple [.int 5, .int 12]) (.tuple (sh_cons .int (sh_cons .int sh_nil))) (by walk_at "at2") (by walk_at "at2") (by decide) (by show A.units + 3 + 64 < cLine; omega) ?_
    repeat walk1
    rename Heap => h16
    rename Cx g _ h14 _ _ h16 => C16
    refine wpAny_nameGoes (by kernel_rfl) C16.ns (by rfl) fun h17 m17 ns17 sb17 => ?_
    have k17 : Keep2 [L] h16 h17 := ns_same C16.ns sb17 (let ⟨o, _, _, z, _⟩ := ns17; ⟨o, z⟩)
    have qq := q12.trans (q13.trans q14)
    have nP : ∀ env : Env, env.scope.kind ≠ .module → env.frame = some L → ∀ P ∈ hl L D, P ≠ L → P ∉ frs (env :: fs) := fun env hk hf P z zL q => by
      rw [frs_cons hf] at q
      exact (List.mem_cons.mp q).elim zL fun y => ff0.ninW P y z
    have tb14 : Tb h14 := ⟨lt11.quiet qq tb10.a.live (nP _ (by exact fun q => nomatch q) (by rfl) 232 (by simp) (Tb.ne tb nL).1.symm), lu11.quiet qq tb10.b.live (nP _ (by exact fun q => nomatch q) (by rfl) 379 (by simp) (Tb.ne tb nL).2.1.symm),
      tb10.c.goF F14.toF (nin333 (Ne.symm (tb10.c.ne_rd H10)) (by decide) (by decide)) (nP _ (by exact fun q => nomatch q) (by rfl) 735 (by simp) (Tb.ne tb nL).2.2.symm)⟩
    have K14 : Keep2 (L :: [D, 232, 379, 735]) h14 h17 := C16.k.trans (k17.more fun x q => List.mem_singleton.mp q ▸ .head _)
    have tb16 : Tb h16 := by walk_at "tb"
    have KF : KeepF (hl L D) fs s.heap h17 := (K9t.toF ff0.ninW).trans (((F14.toF.pop rfl).more fun x q => (List.mem_cons.mp q).elim (fun y => y ▸ .head _) fun z => .tail _ (List.mem_append_left [735] z)).trans (K14.toF ff0.ninW))
    repeat walk1
    try dsimp only
    refine h h17 _ (KF.drop fun x q => ?_) (Tb.sto k17 C16.ns tb16)
    rcases List.mem_cons.mp q with q | q
    · exact .inr (q ▸ nL)
    rcases List.mem_cons.mp q with q | q
    · exact .inr (q ▸ zD)
    · exact .inl q
theorem C_right_plain {a l : Addr} {dv : Value} {us : List Tx} {d : PyData} {b : Bool} {n : Nat} {fs : List Env} {Q : Value → Shared → Prop} (G : Gd w g) (S : St g W s.heap) (hW : ∀ x ∈ ([232, 379, 735] : List Addr), x ∈ W) (hh : A.handled = none) (hd : A.depth + 60 + 10 * n < recursionLimit) (hu : A.units + 200 < cLine) (tb : Tb s.heap) (ca : CondAt s.heap a l dv us d b) (lw : Law us d b n) (hn : n ≤ 9) (hfr : A.frames = some fs) (ff : FF [232, 379, 735] s.heap fs) (gf : ∀ x ∈ frs fs, g.get? x = none)
    (h : ∀ h' tk, KeepF [232, 379, 735] fs s.heap h' → Tb h' → Q (.bool true) { s with heap := h', toks := tk }) : wpAny (MM w) A (call (.ref 740) [.ref a, .bool false]) Q E s := by
  w_top off
  have S1 : St g [232, 379, 735] s.heap := S.less hW
  refine enterN (W := [232, 379, 735]) [("cond", .ref a), ("is_all", .bool false)] G S1 ((fn_at G S (f740 w)).trans rfl) (by kernel_rfl) (by walk_at "dq") (BindsTo.of_eq rfl) (locs rfl) ?_ (by rfl)
  intro L h₁ tk C nL k0
  have ca1 : CondAt h₁ a l dv us d b := ca.go0 (Keep2.all (W := []) k0)
  have ea1 := ca1.1
  have tl1 := ca1.2.1
  have T0 : Ats h₁ [(dv, d)] := Ats.nil.add ca1.2.2
  have tb1 : Tb h₁ := tb.go0 (Keep2.all (W := []) k0)
  have lz := lw.few
  have lp := lw.pos
  repeat walk1
  refine C_lawreader (ts := laid [ofString "SEARCH", ofString "T", ofString "WHEN"] us) G (Cx.st (by assumption)) hh (by walk_at "dp") (by walk_at "tl") (by simp; omega) fun r D tl N vs n5 h5 tk5 k5 nr nD ntl nN er H5 el tks len => ?_
  have C5 := Cx.gs (by assumption) k5
  refine bc fun hGo => ?_
  obtain ⟨zD, gD, wD, lD⟩ := Cx.none_of (by assumption) nD
  obtain ⟨zl, gl, wl, ll⟩ := Cx.none_of (by assumption) ntl
  refine hGo ?_; clear hGo
  have tks5 : ∀ (i : Nat) (t : Tx), (laid [ofString "SEARCH", ofString "T", ofString "WHEN"] us)[i]? = some t → ∃ v, vs[i]? = some v ∧ ∃ da, TokD w h5 v i t da ∧ da ≠ L := fun i t e => by
    obtain ⟨v, e1, da, x1, nd⟩ := tks i t e
    exact ⟨v, e1, da, x1, (Cx.none_of (by assumption) nd).2.2.2⟩
  have tb5 : Tb h5 := Tb.go0 k5 (by walk_at "tb")
  have T5 := Ats.go k5 (by assumption)
  have K05 : Keep2 (L :: [232, 379, 735]) s.heap h5 := C5.k
  have K0z : Keep2 (hl L D) s.heap h5 := K05.more fun x q => (List.mem_cons.mp q).elim (fun y => y ▸ .head _) fun z => .tail _ (.tail _ z)
  have C6 := Cx.addW C5 gD H5.live lD
  clear C5
  try dsimp only
  repeat ((fail_if_success (with_reducible show wpAny _ _ (eval (.Dict _ _ _) _) _ _ _)); walk1)
  refine new_named (Nat.lt_trans (by decide : 1 < 740) (Heap.lt_size (fn_at G (Cx.st (by assumption)) (f740 w)))) fun N2 h7 tk7 t7 n7 k7 nN2 sm eN2 => ?_
  have C7 := Cx.gs (by assumption) k7
  have H7 := RD.gs (by assumption) k7 List.not_mem_nil
  have T7 := Ats.go k7 (by assumption)
  refine bc fun hGo => ?_
  obtain ⟨zN, gN, wN, lN⟩ := Cx.none_of (by assumption) nN2
  refine hGo ?_; clear hGo
  try dsimp only
  repeat ((fail_if_success (with_reducible show wpAny _ _ (setAttr _ _ _) _ _ _)); walk1)
  refine set_named G (by assumption) (by walk_at "stab") (by assumption) (.head _) fun h8 C8 H8 k8 => ?_
  have e8 := k8.keep _ _ eN2 (nin22 (fun q => wN (q ▸ .head _)) lN)
  have tb8 : Tb h8 := Tb.go (by walk_at "tb") k8 (fun y q => by
    rcases List.mem_cons.mp q with q | q
    · exact q ▸ Tb.ne tb zD
    · exact List.mem_singleton.mp q ▸ Tb.ne tb nL)
  have T8 := Ats.go k8 T7
  have K58 : Keep2 (L :: [D, 232, 379, 735]) h5 h8 := C8.k
  replace C8 := C8.root
  clear C7 H7
  try dsimp only
  repeat walk1
  rename Heap => h9
  rename Cx g [D, 232, 379, 735] h8 _ _ h9 => C9
  rename RD w h9 D tl 0 (Value.ref N2) => H9
  rename Ats h9 _ => T9
  have tb9 : Tb h9 := by walk_at "tb"
  have K89 : Keep2 (L :: [D, 232, 379, 735]) h8 h9 := C9.k
  have K59 := K58.trans K89
  have G9 := G.ground C9
  have el9 : h9.get? tl = some (listOf vs.toArray n5) := K59.keep _ _ el (hidn H5 tb5 el ll (fun _ _ _ _ _ q => nomatch congrArg Obj.data q) (fun _ q => nomatch congrArg Obj.data q))
  have R9 : RS w (hideAll h9 (hl L D)) r D tl (.ref N2) vs (laid [ofString "SEARCH", ofString "T", ofString "WHEN"] us) :=
    RS.make C9.ns H9 tb9 (K59.stab _ _ trivial er) el9 (fun i t e => let ⟨v, e1, da, x1, n1⟩ := tks5 i t e; ⟨v, e1, da, x1.goZ (K59.z fun _ q => q) (x1.nin H5 tb5 n1), n1⟩) len (by simp; omega)
  have N9 : NmD w (hideAll h9 (hl L D)) N2 := NmD.make lN H9 tb9 (K89.keep _ _ e8 (hidn H8 tb8 e8 lN (fun _ _ _ _ _ => dict_len (by simp [rdict])) (fun _ q => nomatch congrArg Obj.data q))) sm
  have X9 := Cx.ground C9
  generalize hideAll h9 (hl L D) = g9 at G9 R9 N9 X9
  refine kla_eval rfl ?_
  refine mk_lam (P := 735) (c := 739) (pos := rbPos) G9 X9 (by simp) tb9.c (by kernel_rfl) (by rfl) (by rfl) (by rfl) ?_
  intro f c' ctv pm h10 tk10 C10 k10 lc10 rc ef
  have rb10 : RbF h10 f := ⟨_, _, _, ef, rc⟩
  have H10 := RD.gs H9 k10 (nin1 (tb9.c.ne_rd H9))
  have tb10 : Tb h10 := ⟨tb9.a.go k10 (by decide), tb9.b.go k10 (by decide), lc10⟩
  have T10 := Ats.go k10 T9
  try dsimp only
  repeat walk1
  have hE : Ends (laid [ofString "SEARCH", ofString "T", ofString "WHEN"] us) (3 + us.length) := laid_ends (hd := [ofString "SEARCH", ofString "T", ofString "WHEN"]) (by simp; omega)
  have hS : Spec 299 24 w (laid [ofString "SEARCH", ofString "T", ofString "WHEN"] us) n (0 + 1 + 1 + 1) (3 + us.length) d := ((lw.cd _ 3 (laid_us (hd := [ofString "SEARCH", ofString "T", ofString "WHEN"])) hE).spec (w := w)).2.2 rfl
  have hpt := laid_pt (hd := [ofString "SEARCH", ofString "T", ofString "WHEN"]) (us := us)
  have hct := laid_cont (hd := [ofString "SEARCH", ofString "T", ofString "WHEN"]) (us := us)
  refine C_search_plain (n := n) (q := 3 + us.length) (d := d) G9 (Cx.st C10) R9 H10 (by simp) hh (by first | walk_at "dr" | (show A.depth + 1 + 40 + 10 * n < _; omega)) (by decide) (by show A.units + 3 + 80 < cLine; omega) tb10.a tb10.b rfl N9 rb10 (by omega) (laid_hd rfl) (laid_hd rfl) (laid_hd rfl) hS hct hpt fun a11 h11 tk11 k11 H11 lt11 lu11 t11 => ?_
  have C11 := Cx.go C10 k11 (by simp)
  have T11 := (Ats.go k11 T10).add t11
  have tb11 : Tb h11 := ⟨lt11, lu11, tb10.c.go k11 (nin333 (Ne.symm (tb10.c.ne_rd H10)) (by decide) (by decide))⟩
  try dsimp only
  cases b with
  | true =>
    repeat walk1
    refine eq_told (sh_plain lw.sh) (by walk_at "at2") (by walk_at "at2") (by omega) (by show A.units + 3 + 64 < cLine; omega) ?_
    repeat walk1
    try dsimp only
    rename Heap => h12
    rename Cx g9 _ h9 _ _ h12 => C12
    have tb12 : Tb h12 := by walk_at "tb"
    have Kz : Keep2 (hl L D) s.heap h12 := K0z.trans (K59.trans C12.k)
    exact h _ _ ((Kz.unHl nL zD).toF ff.ninW) tb12
  | false =>
    repeat walk1
    refine eq_told (sh_plain lw.sh) (by walk_at "at2") (by walk_at "at2") (by omega) (by show A.units + 3 + 64 < cLine; omega) ?_
    repeat walk1
    try dsimp only
    rename Heap => h12
    rename Cx g9 _ h9 _ _ h12 => C12
    have tb12 : Tb h12 := by walk_at "tb"
    have Kz : Keep2 (hl L D) s.heap h12 := K0z.trans (K59.trans C12.k)
    exact h _ _ ((Kz.unHl nL zD).toF ff.ninW) tb12
theorem C_right {a l : Addr} {dv : Value} {us : List Tx} {d : PyData} {b isAll : Bool} {n : Nat} {fs : List Env} {Q : Value → Shared → Prop} (G : Gd w g) (S : St g W s.heap) (hW : ∀ x ∈ ([232, 379, 735] : List Addr), x ∈ W) (hh : A.handled = none) (hd : A.depth + 60 + 10 * n < recursionLimit) (hu : A.units + 200 < cLine) (tb : Tb s.heap) (ca : CondAt s.heap a l dv us d b) (lw : Law us d b n) (hn : n ≤ 9) (hfr : A.frames = some fs) (ff : FF [232, 379, 735] s.heap fs) (gf : ∀ x ∈ frs fs, g.get? x = none)
    (h : ∀ h' tk, KeepF [232, 379, 735] fs s.heap h' → Tb h' → Q (.bool true) { s with heap := h', toks := tk }) : wpAny (MM w) A (call (.ref 740) [.ref a, .bool isAll]) Q E s := by
  cases isAll
  · exact C_right_plain G S hW hh hd hu tb ca lw hn hfr ff gf h
  · exact C_right_all G S hW hh hd hu tb ca lw hn hfr ff gf h
theorem CondAt.goF {h h' : Heap} {X : List Addr} {fs : List Env} {a l : Addr} {dv : Value} {us : List Tx} {d : PyData} {b : Bool} (k : KeepF X fs h h') (ff : FF W h fs) (nX : ∀ x ∈ X, ∀ o, h.get? x = some o → ∀ vs n, o ≠ listOf vs n) (x : CondAt h a l dv us d b) : CondAt h' a l dv us d b :=
  ⟨k.stab _ _ (rfl : _ = _) x.1, x.2.1.goF k ff nX, x.2.2.go k.keep2⟩
theorem C_both {a l : Addr} {dv : Value} {us : List Tx} {d : PyData} {b : Bool} {n : Nat} {fs : List Env} {Q : Value → Shared → Prop} (G : Gd w g) (S : St g W s.heap) (hW : ∀ x ∈ ([232, 379, 735] : List Addr), x ∈ W) (hh : A.handled = none) (hd : A.depth + 62 + 10 * n < recursionLimit) (hu : A.units + 210 < cLine) (tb : Tb s.heap) (ca : CondAt s.heap a l dv us d b) (lw : Law us d b n) (hn : n ≤ 9) (hfr : A.frames = some fs) (ff : FF [232, 379, 735] s.heap fs) (gf : ∀ x ∈ frs fs, g.get? x = none)
    (h : ∀ h' tk, KeepF [232, 379, 735] fs s.heap h' → Tb h' → Q (.bool true) { s with heap := h', toks := tk }) : wpAny (MM w) A (call (.ref 747) [.ref a]) Q E s := by
  w_top off
  have S1 : St g [232, 379, 735] s.heap := S.less hW
  refine enterN (W := [232, 379, 735]) [("cond", .ref a)] G S1 ((fn_at G S (f747 w)).trans rfl) (by kernel_rfl) (by walk_at "dq") (BindsTo.of_eq rfl) (locs rfl) ?_ (by rfl)
  intro L h₁ tk C nL k0
  have ca1 : CondAt h₁ a l dv us d b := ca.go0 (Keep2.all (W := []) k0)
  have tb1 : Tb h₁ := tb.go0 (Keep2.all (W := []) k0)
  have ff1 : ∀ env : Env, env.scope.kind ≠ .module → env.frame = some L → FF [232, 379, 735] h₁ (env :: fs) := fun env hk hf => (ff.go (Keep2.all (W := []) k0) (fun _ q => nomatch q)).cons C C.nL hk hf
  repeat walk1
  refine C_right (isAll := true) G C.st (fun _ q => q) hh (by first | walk_at "dr" | (show A.depth + 1 + 60 + 10 * n < _; omega)) (by show A.units + 3 + 200 < _; omega) tb1 ca1 lw hn (Around.frames_deeper hfr) (ff1 _ (by exact fun q => nomatch q) (by rfl)) (goffs C gf rfl) fun h2 tk2 k2 tb2 => ?_
  have C2 := C.aF k2 rfl (fun x q => C.st.off x q) gf
  have ca2 := ca1.goF k2 (ff1 _ (by exact fun q => nomatch q) (by rfl)) tb1.nolist
  try dsimp only
  repeat walk1
  refine C_right (isAll := false) G C2.st (fun _ q => q) hh (by first | walk_at "dr" | (show A.depth + 1 + 60 + 10 * n < _; omega)) (by show A.units + 3 + 200 < _; omega) tb2 ca2 lw hn (Around.frames_deeper hfr) ((ff1 _ (by exact fun q => nomatch q) (by rfl)).goF k2) (goffs C2 gf rfl) fun h3 tk3 k3 tb3 => ?_
  have C3 := C2.aF k3 rfl (fun x q => C2.st.off x q) gf
  try dsimp only
  repeat walk1
  try dsimp only
  have KF : KeepF (L :: [232, 379, 735]) fs s.heap h3 := (C.rootF ff.ninW (ff.ninL nL)).trans ((k2.pop rfl).trans (k3.pop rfl))
  refine h h3 _ (KF.drop fun x q => ?_) tb3
  rcases List.mem_cons.mp q with q | q
  · exact .inr (q ▸ nL)
  · exact .inl q
section
variable {w : World} {A : Around} {E : Value → Shared → Prop} {s : Shared} {g : Heap} {W : List Addr} {h0 : Heap} {L : Addr} {m : PySem.Str → Option Value} {P pc : Addr}
theorem Cx.addW0 {h : Heap} {D : Addr} (C : Cx g W h0 L m h) (gD : g.get? D = none) (lD : ∃ o, h.get? D = some o) (nD : D ≠ L) : Cx g (D :: W) h0 L m h :=
  ⟨C.ns, ⟨C.st.sub, fun a q => (List.mem_cons.mp q).elim (fun y => y ▸ gD) (C.st.off a), fun a q => (List.mem_cons.mp q).elim (fun y => y ▸ lD) (C.st.live a)⟩, fun q => (List.mem_cons.mp q).elim (fun y => nD y.symm) C.nL, C.gL,
    C.k.more fun x q => (List.mem_cons.mp q).elim (fun y => y ▸ .head _) fun z => .tail _ (.tail _ z)⟩
theorem Cx.goF1 {h h' : Heap} {X : List Addr} {env : Env} (C : Cx g W h0 L m h) (k : KeepF X [env] h h') (hf : env.frame = some L) (sx : ∀ x ∈ X, x ∈ W) : Cx g W h0 L m h' := by
  have ef : frs [env] = [L] := frs_cons (fs := []) hf
  have nX : ∀ b o, g.get? b = some o → b ∉ X := fun b o e q => by rw [C.st.off b (sx b q)] at e; cases e
  refine ⟨?_, ⟨fun b o e => k.keep b o (C.st.sub b o e) (nX b o e) fun q => ?_, C.st.off, fun a q => let ⟨o, e⟩ := C.st.live a q; k.live a o e⟩, C.nL, C.gL, C.k.trans ⟨fun b o e n => k.keep b o e (fun q => n (.tail _ (sx b q))) fun q => ?_, k.live, k.stab⟩⟩
  · obtain ⟨o, es, ep, e, r⟩ := C.ns
    obtain ⟨sl, e'⟩ := k.frame L o e (by rw [ef]; exact .head _)
    exact ⟨_, es, ep, e', r⟩
  · rw [ef] at q
    rw [List.mem_singleton.mp q, C.gL] at e; cases e
  · rw [ef] at q
    exact n (List.mem_singleton.mp q ▸ .head _)
theorem KeepF.keep1 {h h' : Heap} {X : List Addr} {env : Env} (k : KeepF X [env] h h') (hf : env.frame = some L) : Keep2 (L :: X) h h' := by
  have ef : frs [env] = [L] := frs_cons (fs := []) hf
  exact ⟨fun b o e n => k.keep b o e (fun q => n (.tail _ q)) fun q => n (by rw [ef] at q; exact List.mem_singleton.mp q ▸ .head _), k.live, k.stab⟩
theorem enterL {R : Result → Shared → Prop} {f : Addr} {name qual : PySem.Str} {params : Arguments} {body : List Stmt} {scope : Scope} {dV kV doc pm cdv ct oc : Value} {an od : Option Addr}
    {osl : Array (Option Value)} {vals : List Value} (binds : List (PySem.Str × Value)) (cl : Addr → List (PySem.Str × Addr))
    (G : Gd w g) (S : St g W s.heap) (ho : s.heap.get? f = some ⟨oc, od, .func (fnX name qual params body scope [] dV kV doc pm an cdv ct), osl⟩) (hcd : codeIn (K w.params) cdv qual = true) (hroom : A.depth < recursionLimit)
    (hbind : bindArgs (fnX name qual params body scope [] dV kV doc pm an cdv ct) ⟨vals, []⟩ = pure binds) (hcl : ∀ L, cellsFrom (L + 1) scope.names [] = cl L)
    (hkind : ∀ L, ∀ x ∈ binds, scope.names.lookup x.1 = some .local ∨ (scope.names.lookup x.1 = some .cell ∧ ((cl L).lookup x.1).isSome = true))
    (h : ∀ L h₁ tk, Cx g W s.heap L (bindL (envX qual scope L f cdv (cl L)).kindOf binds fun _ => none) h₁ → s.heap.get? L = none → s.heap.get? (L + 1) = none → (∀ b o, s.heap.get? b = some o → h₁.get? b = some o) →
      (∀ n c, (cl L).lookup n = some c → h₁.IsCell c (bindC (envX qual scope L f cdv (cl L)).kindOf binds (fun _ => none) n)) →
      wpAny (MM w) (A.deeper (envX qual scope L f cdv (cl L))) (execs body (envX qual scope L f cdv (cl L))) (fun fl s' => R (.ok (.ret (match fl with | .ret v => v | _ => .none))) s')
        (fun e s' => wpAny (MM w) (A.deeper (envX qual scope L f cdv (cl L))) (leaving (envX qual scope L f cdv (cl L)) e) (fun _ s'' => R (.error e) s'') (fun e' s'' => R (.error e') s'') s')
        { s with heap := h₁, toks := tk })
    (hco : scope.isCoroutine = false := by rfl) (hgen : scope.isGenerator = false := by rfl) (hk : scope.kind = .function := by rfl) : codeAny (MM w) A (.call (.ref f) ⟨vals, []⟩) R s := by
  have G' := G.keeps S.sub
  refine codeAny_call_cells (binds := binds) (body := body) (fd := fnX name qual params body scope [] dV kV doc pm an cdv ct) hroom ho rfl G'.lim (codeRec_of G'.K hcd) rfl hbind rfl (by rw [show (fnX name qual params body scope [] dV kV doc pm an cdv ct).scope = scope from rfl, hcl]; exact hkind _) (fun s₁ ic => ?_) hco hgen hk
  have ee : callEnvC (fnX name qual params body scope [] dV kV doc pm an cdv ct) s.heap.objs.size f = envX qual scope s.heap.objs.size f cdv (cl s.heap.objs.size) := by
    rw [← hcl]; rfl
  rw [ee] at ic ⊢
  refine bc fun hGo => ?_
  obtain ⟨h₁, tk, rfl⟩ := ic.toInCall.same
  refine hGo ?_; clear hGo
  have kb := ic.toInCall.keep
  have nL := none_of_size (h := s.heap)
  have nW : s.heap.objs.size ∉ W := fun q => by obtain ⟨o, e⟩ := S.live _ q; rw [nL] at e; cases e
  have gL : g.get? s.heap.objs.size = none := by
    cases q : g.get? s.heap.objs.size with
    | none => rfl
    | some o => have e := S.sub _ o q; rw [nL] at e; cases e
  exact h _ h₁ tk ⟨ic.toInCall.ns, ⟨fun b o e => kb b o (S.sub b o e), S.off, fun a q => let ⟨o, e⟩ := S.live a q; ⟨o, kb a o e⟩⟩, nW, gL, Keep2.all kb⟩ nL (Heap.get?_none_of_le (Nat.le_succ _)) kb fun n c e => ic.cell n c e
theorem PenAt.goZ {h h' : Heap} {Z : List Addr} {c : Addr} {turn load : Int} (k : KeepZ Z h h') (x : PenAt h P c turn load) (n : P ∉ Z) : PenAt h' P c turn load := by
  obtain ⟨a, b, o, e, r⟩ := x
  exact ⟨a, b, o, k.keep _ _ e n, r⟩
theorem PenOk.goZ {h h' : Heap} {Z : List Addr} {k : Nat} (kz : KeepZ Z h h') (x : PenOk pc h P k) (n : P ∉ Z) (nc : pc ∉ Z) : PenOk pc h' P k := by
  obtain ⟨xs, t, d, a1, ⟨e, a2⟩, a⟩ := x
  exact ⟨xs, t, d, a1.goZ kz n, ⟨e, kz.keep _ _ a2 nc⟩, a⟩
theorem codeRec_goZ {h h' : Heap} {X : List Addr} {cd : Value} {q : PySem.Str} (k : KeepZ X h h') (x : h.CodeRec cd q) : h'.CodeRec cd q := by
  obtain ⟨c, o, vs, t, e, a, d, y⟩ := x
  exact ⟨c, o, vs, t, e, k.stab _ _ (by unfold Stab; rw [d]; exact ⟨q, t, y⟩) a, d, y⟩
theorem Lt.goZ {h h' : Heap} {Z : List Addr} {pos : Pos} {qual : PySem.Str} {a : Addr} (x : Lt h a pos qual) (k : KeepZ Z h h') (n : a ∉ Z) : Lt h' a pos qual := by
  obtain ⟨ps, e, y⟩ := x
  exact ⟨ps, k.keep _ _ e n, y.elim .inl fun ⟨c', a, b⟩ => .inr ⟨c', a, codeRec_goZ k b⟩⟩
theorem Tb.goZ {h h' : Heap} {Z : List Addr} (x : Tb h) (k : KeepZ Z h h') (n : ∀ y ∈ Z, y ≠ 232 ∧ y ≠ 379 ∧ y ≠ 735) : Tb h' :=
  ⟨x.a.goZ k fun q => (n _ q).1 rfl, x.b.goZ k fun q => (n _ q).2.1 rfl, x.c.goZ k fun q => (n _ q).2.2 rfl⟩
theorem IsCell.goZ {h h' : Heap} {Z : List Addr} {c : Addr} {v : Option Value} (k : KeepZ Z h h') (x : h.IsCell c v) : h'.IsCell c v := by
  obtain ⟨o, e, d⟩ := x
  exact ⟨o, k.stab _ _ (by unfold Stab; rw [d]; trivial) e, d⟩
theorem TokL.goZ {h h' : Heap} {Z : List Addr} {l : Addr} {us : List Tx} (k : KeepZ Z h h') (x : TokL h l us) (n : l ∉ Z) : TokL h' l us := by
  obtain ⟨vs, c, e, i⟩ := x
  exact ⟨vs, c, k.keep _ _ e n, i.goZ k⟩
theorem CondAt.goZ {h h' : Heap} {Z : List Addr} {a l : Addr} {dv : Value} {us : List Tx} {d : PyData} {b : Bool} (k : KeepZ Z h h') (x : CondAt h a l dv us d b) (n : l ∉ Z) : CondAt h' a l dv us d b :=
  ⟨k.stab _ _ (rfl : _ = _) x.1, x.2.1.goZ k n, x.2.2.goZ k⟩
def LeafAt (h : Heap) (Z : List Addr) (j : Nat) (v : Value) : Prop := ∃ a l dv us d b, v = .ref a ∧ CondAt h a l dv us d b ∧ Lf us d b ∧ (j = 1 → b = true) ∧ l ∉ Z
theorem LeafAt.goZ {h h' : Heap} {Z Z' : List Addr} {j : Nat} {v : Value} (k : KeepZ Z' h h') (x : LeafAt h Z j v) (s : ∀ y ∈ Z', y ∈ Z) : LeafAt h' Z j v := by
  obtain ⟨a, l, dv, us, d, b, e, c, f, q, n⟩ := x
  exact ⟨a, l, dv, us, d, b, e, c.goZ k fun z => n (s _ z), f, q, n⟩
theorem LeafAt.less {h : Heap} {Z Z' : List Addr} {j : Nat} {v : Value} (x : LeafAt h Z j v) (s : ∀ y ∈ Z', y ∈ Z) : LeafAt h Z' j v := by
  obtain ⟨a, l, dv, us, d, b, e, c, f, q, n⟩ := x
  exact ⟨a, l, dv, us, d, b, e, c, f, q, fun z => n (s _ z)⟩
structure Sta (h : Heap) (Z : List Addr) (c P pc la : Addr) (vs : List Value) (k : Nat) : Prop where
  po : PenOk pc h P k
  ce : h.IsCell c (some (.ref P))
  li : ∃ n, h.get? la = some (listOf vs.toArray n)
  lf : ∀ (j : Nat) (v : Value), vs[j]? = some v → LeafAt h Z j v
theorem LeafAt.wide {h : Heap} {Z : List Addr} {I j : Nat} {v : Value} (x : LeafAt h Z j v) (n : h.get? I = none) : LeafAt h (I :: Z) j v := by
  obtain ⟨a, l, dv, us, d, b, e, c, f, q, y⟩ := x
  exact ⟨a, l, dv, us, d, b, e, c, f, q, fun z => (List.mem_cons.mp z).elim (fun u => by obtain ⟨_, ⟨_, _, e, _⟩, _⟩ := c; rw [u, n] at e; cases e) y⟩
theorem Sta.wide {h : Heap} {Z : List Addr} {c la I : Addr} {vs : List Value} {k : Nat} (x : Sta h Z c P pc la vs k) (n : h.get? I = none) : Sta h (I :: Z) c P pc la vs k := ⟨x.po, x.ce, x.li, fun j v e => (x.lf j v e).wide n⟩
theorem Sta.less {h : Heap} {Z Z' : List Addr} {c la : Addr} {vs : List Value} {k : Nat} (x : Sta h Z c P pc la vs k) (s : ∀ y ∈ Z', y ∈ Z) : Sta h Z' c P pc la vs k := ⟨x.po, x.ce, x.li, fun j v e => (x.lf j v e).less s⟩
theorem Sta.goZ {h h' : Heap} {Z Z' : List Addr} {c la : Addr} {vs : List Value} {k : Nat} (kz : KeepZ Z' h h') (x : Sta h Z c P pc la vs k) (s : ∀ y ∈ Z', y ∈ Z) (n : ∀ y ∈ Z', y ≠ P ∧ y ≠ pc ∧ y ≠ la) : Sta h' Z c P pc la vs k :=
  ⟨x.po.goZ kz (fun q => (n _ q).1 rfl) (fun q => (n _ q).2.1 rfl), IsCell.goZ kz x.ce, let ⟨e, q⟩ := x.li; ⟨e, kz.keep _ _ q fun z => (n _ z).2.2 rfl⟩, fun j v e => (x.lf j v e).goZ kz s⟩
def NoL (h : Heap) (X : List Addr) : Prop := ∀ x ∈ X, ∀ o, h.get? x = some o → ∀ vs n, o ≠ listOf vs n
theorem NoL.not {h : Heap} {X : List Addr} {l : Addr} {vs : Array Value} {n : Nat} (x : NoL h X) (e : h.get? l = some (listOf vs n)) : l ∉ X := fun q => x l q _ e _ _ rfl
theorem CondAt.goN {h h' : Heap} {X : List Addr} {a l : Addr} {dv : Value} {us : List Tx} {d : PyData} {b : Bool} (k : Keep2 X h h') (x : CondAt h a l dv us d b) (n : NoL h X) : CondAt h' a l dv us d b :=
  ⟨k.stab _ _ (rfl : _ = _) x.1, let ⟨vs, c, e, i⟩ := x.2.1; ⟨vs, c, k.keep _ _ e (n.not e), i.go k⟩, x.2.2.go k⟩
theorem LeafAt.goN {h h' : Heap} {X Z : List Addr} {j : Nat} {v : Value} (k : Keep2 X h h') (x : LeafAt h Z j v) (n : NoL h X) : LeafAt h' Z j v := by
  obtain ⟨a, l, dv, us, d, b, e, c, f, q, y⟩ := x
  exact ⟨a, l, dv, us, d, b, e, c.goN k n, f, q, y⟩
theorem listObj {h : Heap} {l : Addr} {vs : Array Value} (x : h.IsList l vs) : ∃ o n, h.get? l = some o ∧ o.cls = .type "list" ∧ o.data = .seq vs n := by
  obtain ⟨o, e, c, n, d⟩ := x
  exact ⟨o, n, e, c, d⟩
def NoL2 (h : Heap) (X : List Addr) : Prop := ∀ x ∈ X, ∀ vs, ¬ h.IsList x vs
theorem NoL2.nol {h : Heap} {X : List Addr} (x : NoL2 h X) : NoL h X := fun y q o e vs n z => x y q vs ⟨_, e, by rw [z], n, by rw [z]⟩
theorem NoL2.nil {h : Heap} : NoL2 h [] := fun _ q => nomatch q
theorem NoL2.ns {h : Heap} (hn : h.Ns L m) : NoL2 h [L] := fun x q vs y => list_ne_L y hn (List.mem_singleton.mp q)
theorem NoL2.app {h : Heap} {X Y : List Addr} (x : NoL2 h X) (y : NoL2 h Y) : NoL2 h (X ++ Y) := fun z q vs e => (List.mem_append.mp q).elim (fun q => x z q vs e) fun q => y z q vs e
theorem NoL2.tab {h : Heap} (tb : Tb h) : NoL2 h [232, 379, 735] := fun x q vs y => by
  obtain ⟨o, e, c, n, d⟩ := y
  obtain ⟨ps, u1, _⟩ := tb.a
  obtain ⟨ps2, u2, _⟩ := tb.b
  obtain ⟨ps3, u3, _⟩ := tb.c
  simp only [List.mem_cons, List.not_mem_nil, or_false] at q
  rcases q with q | q | q
  · rw [q, u1] at e; cases e; cases d
  · rw [q, u2] at e; cases e; cases d
  · rw [q, u3] at e; cases e; cases d
theorem NoL2.iter {h : Heap} {I l : Addr} {i : Nat} (x : h.IsListIter I l i) : NoL2 h [I] := fun y q vs z => by
  obtain ⟨o, e, c, d⟩ := x
  obtain ⟨o', e', c', n, d'⟩ := z
  rw [List.mem_singleton.mp q, e] at e'; cases e'
  rw [d] at d'; cases d'
theorem PenOk.goN {h h' : Heap} {X : List Addr} {k : Nat} (kk : Keep2 X h h') (x : PenOk pc h P k) (n : NoL2 h X) : PenOk pc h' P k := by
  obtain ⟨xs, t, d, ⟨t1, t2, il⟩, ⟨e, a2⟩, a⟩ := x
  exact ⟨xs, t, d, PenAt.go kk ⟨t1, t2, il⟩ (fun q => n P q _ il), ⟨e, kk.keep _ _ a2 fun q => n pc q _ (list_at a2)⟩, a⟩
theorem Sta.goN {h h' : Heap} {X Z : List Addr} {c la : Addr} {vs : List Value} {k : Nat} (kk : Keep2 X h h') (x : Sta h Z c P pc la vs k) (n : NoL2 h X) : Sta h' Z c P pc la vs k :=
  ⟨x.po.goN kk n, IsCell.go kk x.ce, let ⟨e, q⟩ := x.li; ⟨e, kk.keep _ _ q (n.nol.not q)⟩, fun j v e => (x.lf j v e).goN kk n.nol⟩
theorem Tb.iter {h h' : Heap} {I l : Addr} {i : Nat} (x : h.IsListIter I l i) (k : Keep2 [I] h h') (tb : Tb h) : Tb h' := tb.go k fun y q => by
  obtain ⟨o, e, c, d⟩ := x
  rw [List.mem_singleton.mp q]
  obtain ⟨ps, u1, _⟩ := tb.a
  obtain ⟨ps2, u2, _⟩ := tb.b
  obtain ⟨ps3, u3, _⟩ := tb.c
  exact ⟨fun z => (by rw [z, u1] at e; cases e; cases c), fun z => (by rw [z, u2] at e; cases e; cases c), fun z => (by rw [z, u3] at e; cases e; cases c)⟩
theorem n_l2 {env : Env} {h0 : Heap} {x : PySem.Str} {pos : Pos} {v : Value} {Q : Value → Shared → Prop} (C : Cx g W h0 env.locals m s.heap) (hv : m x = some v) (h : Q v s)
    (hk : env.scope.kind = .function) (hl : env.kindOf x = some .local) (hd : (x == ("__debug__" : PySem.Str)) = false) : wpAny (MM w) A (eval (.Name x pos) env) Q E s := n_l C hv h hk hl hd
theorem slice24 {value slice : PySem.Expr} {l : Addr} {v0 v1 v2 v3 : Value} {vr : List Value} {u1 u2 : Tok} {Q : Value → Shared → Prop} (hl : s.heap.IsList l (v0 :: v1 :: v2 :: v3 :: vr).toArray) (hz : vr.length ≤ 60) (h : ∀ a h', Keep2 [] s.heap h' → h'.get? a = some (listOf [v2, v3].toArray 0) → s.heap.get? a = none → Q (.ref a) { s with heap := h' })
    (hs : subscripted slice false (.ref l) (.ref s.heap.objs.size) = operate [.ref s.heap.objs.size, .ref l] (getItem (.ref l) (.ref s.heap.objs.size)) := by with_unfolding_all rfl)
    (ht : ∀ r, letTemporaryGo value (.ref l) r = pure () := by intro _; with_unfolding_all rfl) :
    wpAny (MM w) A (subscriptTail value slice (.ref l) (.ref s.heap.objs.size)) Q E { s with heap := s.heap.push { cls := .type "slice", data := .fields #[.int 2 u1, .int 4 u2, .none] } } := by
  have e24 : slicePick (v0 :: v1 :: v2 :: v3 :: vr).toArray (some 2) (some 4) none = [v2, v3].toArray := by
    have := slicePick_run (v0 :: v1 :: v2 :: v3 :: vr).toArray 2 4 (by simp) (by decide)
    simpa using this
  refine subscriptTail_ops (Heap.IsList.typeIs (s := { s with heap := s.heap.push { cls := .type "slice", data := .fields #[.int 2 u1, .int 4 u2, .none] } }) (hl.push _)) list_getitem_lookup
    (wpAny_getItem_list_slice (hl.push _) (Heap.IsSliceOf.new ..) (lo := some 2) (hi := some 4) (.int _ _) (.int _ _) .none (by simp) ?_ (by simp [PySem.sizeLine_eq]; omega)) hs ht
  refine h _ _ ((Keep2.push _).trans (Keep2.push _)) ?_ ?_
  · have e := Heap.get?_push_size (s.heap.push { cls := .type "slice", data := .fields #[.int 2 u1, .int 4 u2, .none] }) (o := { cls := .type "list", data := .seq (slicePick (v0 :: v1 :: v2 :: v3 :: vr).toArray (some 2) (some 4) none) }) rfl
    rw [e24] at e
    simpa [e24] using e
  · exact none_back (Keep2.push (W := []) _).live none_of_size
theorem Lt.cell {h h' : Heap} {c a : Addr} {v : Option Value} {pos : Pos} {qual : PySem.Str} (ic : h.IsCell c v) (kb : ∀ b o, h.get? b = some o → b ∉ [c] → h'.get? b = some o) (x : Lt h a pos qual) : Lt h' a pos qual := by
  obtain ⟨oc, ec, dc⟩ := ic
  have ne : ∀ b o, h.get? b = some o → (∀ v, o.data ≠ .cell v) → h'.get? b = some o := fun b o e n => kb b o e fun q => by
    rw [List.mem_singleton.mp q, ec] at e; cases e; exact n _ dc
  obtain ⟨ps, e, y⟩ := x
  exact ⟨ps, ne _ _ e (fun v q => nomatch q), y.elim .inl fun ⟨c', a, b⟩ => .inr ⟨c', a, let ⟨c, o, vs, t, e, a, d, y⟩ := b; ⟨c, o, vs, t, e, ne _ _ a (fun v q => by rw [d] at q; cases q), d, y⟩⟩⟩
theorem Tb.cell {h h' : Heap} {c : Addr} {v : Option Value} (ic : h.IsCell c v) (kb : ∀ b o, h.get? b = some o → b ∉ [c] → h'.get? b = some o) (x : Tb h) : Tb h' := ⟨x.a.cell ic kb, x.b.cell ic kb, x.c.cell ic kb⟩
theorem PenOk.cell {h h' : Heap} {c : Addr} {v : Option Value} {k : Nat} (ic : h.IsCell c v) (kb : ∀ b o, h.get? b = some o → b ∉ [c] → h'.get? b = some o) (x : PenOk pc h P k) : PenOk pc h' P k := by
  obtain ⟨oc, ec, dc⟩ := ic
  obtain ⟨xs, t, d, ⟨t1, t2, o, eo, co, no, d_o⟩, ⟨e, a2⟩, a⟩ := x
  exact ⟨xs, t, d, ⟨t1, t2, o, kb _ _ eo fun q => (by rw [List.mem_singleton.mp q, ec] at eo; cases eo; rw [dc] at d_o; cases d_o), co, no, d_o⟩, ⟨e, kb _ _ a2 fun q => (by rw [List.mem_singleton.mp q, ec] at a2; cases a2; cases dc)⟩, a⟩
theorem seven {t0 t1 t2 t3 t4 t5 t6 : Tok} {i : Nat} {v : Value} (e : [Value.int 0 t0, Value.int 1 t1, Value.int 3 t2, Value.int 4 t3, Value.int 5 t4, Value.int 6 t5, Value.int 7 t6][i]? = some v) : ∃ (kind : Nat) (t : Tok), v = .int (kind : Int) t ∧ (i = 1 → kind < 4) := by
  rcases i with _ | _ | _ | _ | _ | _ | _ | i
  · cases e; exact ⟨0, t0, rfl, fun q => by decide⟩
  · cases e; exact ⟨1, t1, rfl, fun q => by decide⟩
  · cases e; exact ⟨3, t2, rfl, fun q => by cases q⟩
  · cases e; exact ⟨4, t3, rfl, fun q => by cases q⟩
  · cases e; exact ⟨5, t4, rfl, fun q => by cases q⟩
  · cases e; exact ⟨6, t5, rfl, fun q => by cases q⟩
  · cases e; exact ⟨7, t6, rfl, fun q => by cases q⟩
  · simp at e
theorem tup_nin {h : Heap} {a : Addr} {vs : List Value} {k : Nat} (e : h.get? a = some (tupO vs)) (tb : Tb h) (po : PenOk pc h P k) : a ∉ ([P, 232, 379, 735] : List Addr) := fun q => by
  obtain ⟨ps, u1, _⟩ := tb.a
  obtain ⟨ps2, u2, _⟩ := tb.b
  obtain ⟨ps3, u3, _⟩ := tb.c
  obtain ⟨xs, t, d, ⟨t1, t2, o, eo, co, no, d_o⟩, _⟩ := po
  simp only [List.mem_cons, List.not_mem_nil, or_false] at q
  rcases q with q | q | q | q
  · rw [q, eo] at e; cases e; simp at co
  · rw [q, u1] at e; exact nomatch congrArg (Option.map Obj.data) e
  · rw [q, u2] at e; exact nomatch congrArg (Option.map Obj.data) e
  · rw [q, u3] at e; exact nomatch congrArg (Option.map Obj.data) e
theorem PenOk.cells {h : Heap} {k : Nat} (x : PenOk pc h P k) : ∃ o, h.get? pc = some o := by
  obtain ⟨_, _, _, _, ⟨_, e⟩, _⟩ := x
  exact ⟨_, e⟩
theorem dead_ne {h : Heap} {y b : Addr} (n : h.get? y = none) (e : ∃ o, h.get? b = some o) : y ≠ b := fun q => by obtain ⟨o, e⟩ := e; rw [← q, n] at e; cases e
theorem FF.one {h : Heap} {W' : List Addr} {env : Env} (C : Cx g W' h0 L m h) (n : L ∉ W) (hk : env.scope.kind ≠ .module) (hf : env.frame = some L) : FF W h [env] := fun y q => by
  rw [List.mem_singleton.mp q]
  exact ⟨hk, L, m, hf, C.ns, n⟩
theorem for_inv {env : Env} {x : PySem.Str} {px : Pos} {body : List Stmt} {l : Addr} {vs : List Value} {Q : Flow → Shared → Prop} (inv : Addr → (PySem.Str → Option Value) → Heap → Prop) (C : Cx g W h0 env.locals m s.heap) (hl : s.heap.IsList l vs.toArray) (lW : l ∉ W) (hA : A.handled = none)
    (hk : env.scope.kind = .function) (hx : env.kindOf x = some .local)
    (ini : ∀ I h₁, s.heap.get? I = none → Keep2 [] s.heap h₁ → inv I m h₁)
    (step : ∀ I (i : Nat) (v : Value) m h h' tk, s.heap.get? I = none → vs[i]? = some v → inv I m h → Cx g W h' env.locals (fun y => if y = x then some v else m y) h' → Keep2 [env.locals, I] h h' →
      wpAny (MM w) A (execs body env) (fun f s₃ => match f with
        | .next | .cont => Wrap (∃ h'' tk' m', s₃ = { s with heap := h'', toks := tk' } ∧ Cx g W h' env.locals m' h'' ∧ inv I m' h'')
        | .brk => Q .next s₃
        | .ret v => Q (.ret v) s₃) (notedBy (MM w) A env fun e s' => cameBackBy (MM w) A env E e s') { s with heap := h', toks := tk })
    (fin : ∀ I m h h' tk, s.heap.get? I = none → inv I m h → Cx g W h0 env.locals m h' → KeepZ [I] h h' → Q .next { s with heap := h', toks := tk }) :
    wpAny (MM w) A (pyIter (.ref l)) (fun it s₂ => codeAny (MM w) A (.forLoop (.Name x px) it body [] env) (fun r s' => match r with | .ok f => Q f s' | .error e => cameBackBy (MM w) A env E e s') s₂) E s := by
  refine wpAny_pyIter_list hl ?_
  have nI := none_of_size (h := s.heap)
  generalize hI : s.heap.objs.size = I at nI
  refine bc fun hGo => ?_
  obtain ⟨n0, ng, nW, nL⟩ := C.none_of nI
  refine hGo ?_; clear hGo
  have lI : l ≠ I := fun q => by obtain ⟨o, e, _⟩ := hl; rw [q, nI] at e; cases e
  have ns_it : ∀ {h : Heap} {i : Nat}, h.IsListIter I l i → ∀ o, h.get? I = some o → ¬ Stab o := fun it o q n => by obtain ⟨o', e, c, d⟩ := it; rw [q] at e; cases e; unfold Stab at n; rw [d] at n; simp at n
  refine codeAny_forLoop (fun n s' => ∃ i m' h' tk', n = vs.length - i ∧ i ≤ vs.length ∧ s' = { s with heap := h', toks := tk' } ∧ Cx g W h0 env.locals m' h' ∧ h'.IsListIter I l i ∧ h'.IsList l vs.toArray ∧ inv I m' h') ?_ vs.length
    ⟨0, m, _, s.toks, rfl, Nat.zero_le _, rfl, C.go (Keep2.push (W := []) { cls := .type "list_iterator", data := .fields #[.ref l, .int 0 0] }) (fun _ q => nomatch q), ⟨_, hI ▸ Heap.get?_push_size _ rfl, rfl, rfl⟩, hl.push _, ini I _ nI (Keep2.push _)⟩
  rintro n s' ⟨i, m', h', tk', rfl, hi, rfl, C', it, li, iv⟩
  by_cases c : i < vs.length
  · refine wpAny_pyNext_list_item it li (x := vs[i]) (by simp [c]) fun h2 it2 sb => ?_
    have kI : Keep2 [I] h' h2 := keep2_same sb (let ⟨o, e, _⟩ := it2; ⟨o, e⟩) (ns_it it)
    have C2 : Cx g W h0 env.locals m' h2 := C'.fresh kI n0 nL ng
    refine wpAny_assign_Name (store (s := { s with heap := h2, toks := tk' }) C2 (fun h3 C3 k3 => ?_) hk hx)
    have k23 : Keep2 [env.locals, I] h' h3 := (kI.more (by simp)).trans (k3.more (by simp))
    refine wpAny_mono (step I i vs[i] m' h' h3 _ nI (List.getElem?_eq_getElem c) iv C3.root k23) (fun f s₃ hf => ?_) (fun _ _ y => y)
    have it3 : h3.IsListIter I l (i + 1) := by obtain ⟨o, e, y⟩ := it2; exact ⟨o, k3.keep I o e (by rw [List.mem_singleton]; exact nL), y⟩
    have li3 : h3.IsList l vs.toArray := let ⟨o, e, y⟩ := li; ⟨o, k23.keep l o e (by
      intro q
      rcases List.mem_cons.mp q with q | q
      · exact list_ne_L li C'.ns q
      · exact lI (List.mem_singleton.mp q)), y⟩
    have fin' : (∃ h'' tk' m', s₃ = { s with heap := h'', toks := tk' } ∧ Cx g W h3 env.locals m' h'' ∧ inv I m' h'') → ∃ m_1, m_1 < vs.length - i ∧ ∃ i m' h' tk', m_1 = vs.length - i ∧ i ≤ vs.length ∧ s₃ = { s with heap := h', toks := tk' } ∧ Cx g W h0 env.locals m' h' ∧ h'.IsListIter I l i ∧ h'.IsList l vs.toArray ∧ inv I m' h' := by
      rintro ⟨h4, tk4, m4, rfl, C4, iv4⟩
      refine ⟨vs.length - (i + 1), by omega, i + 1, m4, h4, tk4, rfl, c, rfl, C4.back C3.k, ?_, ?_, iv4⟩
      · obtain ⟨o, e, y⟩ := it3
        exact ⟨o, C4.k.keep I o e (fun q => (List.mem_cons.mp q).elim (fun z => nL z) nW), y⟩
      · obtain ⟨o, e, y⟩ := li3
        exact ⟨o, C4.k.keep l o e (fun q => (List.mem_cons.mp q).elim (list_ne_L li C'.ns) lW), y⟩
    cases f with
    | next => exact fin' hf.out
    | cont => exact fin' hf.out
    | brk => exact hf
    | ret v => exact hf
  · have e : i = vs.length := by omega
    subst e
    refine wpAny_pyNext_list_end hA it li (by simp) fun h2 sb => ?_
    have kb : ∀ b o, h'.get? b = some o → b ≠ I → h2.get? b = some o := fun b o q n => sb b o n q
    exact wpAny_execs_nil (fin I m' h' h2 tk' nI iv (C'.over kb n0 nL ng nW) ⟨fun b o q n => kb b o q fun z => n (z ▸ .head _), fun b o z q => kb b o q fun y => ns_it it o (y ▸ q) z⟩)
theorem Sta.go0 {h h' : Heap} {Z : List Addr} {c la : Addr} {vs : List Value} {k : Nat} (kk : Keep2 [] h h') (x : Sta h Z c P pc la vs k) : Sta h' Z c P pc la vs k := x.goN kk NoL2.nil
theorem Sta.sto {h h' : Heap} {Z : List Addr} {c la : Addr} {vs : List Value} {k : Nat} (kk : Keep2 [L] h h') (C : Cx g W h0 L m h) (x : Sta h Z c P pc la vs k) : Sta h' Z c P pc la vs k := x.goN kk (NoL2.ns C.ns)
end
section
variable {w : World} {A : Around} {E : Value → Shared → Prop} {s : Shared} {g : Heap} {W : List Addr} {P pc : Addr}
theorem n_free2 {env : Env} {x : PySem.Str} {pos : Pos} {c : Addr} {v : Value} {Q : Value → Shared → Prop} (hl : env.kindOf x = some .free) (hc : env.cells.lookup x = some c) (hv : s.heap.IsCell c (some v)) (h : Q v s)
    (hk : env.scope.kind = .function) (hd : (x == ("__debug__" : PySem.Str)) = false) (hn : (x == ("__classdict__" : PySem.Str)) = false) : wpAny (MM w) A (eval (.Name x pos) env) Q E s := n_free hc hv h hk hl hd hn
end
theorem said102 : True := by
  k_with "m:eval Name" => refine n_free2 (by kernel_rfl!) (by with_unfolding_all rfl) (by walk_at "cell") ?_ (by kernel_rfl!) (by kernel_rfl!) (by kernel_rfl!)
  trivial
section
variable {w : World} {A : Around} {E : Value → Shared → Prop} {s : Shared} {g : Heap} {W : List Addr} {P pc : Addr}
end
theorem said103 : True := by
  k_with "m:eval Name" => refine n_cell2 (by kernel_rfl!) (by with_unfolding_all rfl) (by walk_at "cell") ?_ (by kernel_rfl!) (by kernel_rfl!)
  trivial
section
variable {w : World} {A : Around} {E : Value → Shared → Prop} {s : Shared} {g : Heap} {W : List Addr} {P pc : Addr}
end
theorem said104 : True := by
  k_with "m:eval Name" => refine n_l2 ‹_› (by with_unfolding_all assumption) ?_ (by kernel_rfl!) (by kernel_rfl!) (by kernel_rfl!)
  trivial
section
variable {w : World} {A : Around} {E : Value → Shared → Prop} {s : Shared} {g : Heap} {W : List Addr} {P pc : Addr}
end
theorem said105 : True := by
  k_with "m:ca" => first | assumption | exact CondAt.go0 ‹_› (by walk_at "ca") | exact CondAt.sto ‹_› ‹_› (by walk_at "ca") | fail "ca"
  trivial
section
variable {w : World} {A : Around} {E : Value → Shared → Prop} {s : Shared} {g : Heap} {W : List Addr} {P pc : Addr}
end
theorem said106 : True := by
  k_with "m:subscriptTail" => (walk_plain_pass; first
      | ((with_reducible show wpAny _ _ (subscriptTail _ _ _ (Value.int 0 _)) _ _ _); refine cond0 (by walk_at "ca") ?_)
      | ((with_reducible show wpAny _ _ (subscriptTail _ _ _ (Value.int 1 _)) _ _ _); refine cond1 (by walk_at "ca") ?_)
      | ((with_reducible show wpAny _ _ (subscriptTail _ _ _ (Value.int 2 _)) _ _ _); refine cond2 (by walk_at "ca") ?_)
      | fail "cond")
  trivial
section
variable {w : World} {A : Around} {E : Value → Shared → Prop} {s : Shared} {g : Heap} {W : List Addr} {P pc : Addr}
end
theorem said107 : True := by
  k_with "m:call ref" => (walk_plain_pass; ((with_reducible show wpAny _ _ (call (Value.ref 700) [Value.str (ofString "AND") _]) _ _ _); refine C_words (ws := [ofString "AND"]) ‹_› (Cx.st ‹_›) ‹_› (by walk_at "dp") (by kernel_rfl!) (by decide) (by kernel_rfl!) (by decide) ?_; (intro aₘ hₘ tkₘ nₘ kₘ lₘ; have zₘ := Cx.none_of ‹_› nₘ; have Cₘ := Cx.gs ‹_› kₘ; walk_at "more"; try dsimp only)))
  trivial
section
variable {w : World} {A : Around} {E : Value → Shared → Prop} {s : Shared} {g : Heap} {W : List Addr} {P pc : Addr}
end
theorem said108 : True := by
  k_with "m:sta" => first | assumption | exact Sta.go0 ‹_› (by walk_at "sta") | exact Sta.sto ‹_› ‹_› (by walk_at "sta") | fail "sta"
  trivial
section
variable {w : World} {A : Around} {E : Value → Shared → Prop} {s : Shared} {g : Heap} {W : List Addr} {P pc : Addr}
theorem C_law {la : Addr} {xs : List (Int × Tok)} {Q : Value → Shared → Prop} (G : Gd w g) (S : St g W s.heap) (hW : ∀ x ∈ ([232, 379, 735] : List Addr), x ∈ W) (hh : A.handled = none) (hd : A.depth + 100 < recursionLimit) (hu : A.units + 230 < cLine) (tb : Tb s.heap) (x : s.heap.IsList la (xs.map fun x => Value.int x.1 x.2).toArray) (hz : xs.length ≤ 64) (hfr : A.frames = some [])
    (h : ∀ h' tk, Keep2 [232, 379, 735] s.heap h' → Tb h' → Q (.bool true) { s with heap := h', toks := tk }) : wpAny (MM w) A (call (.ref 752) [.ref la]) Q E s := by
  w_top off
  have S1 : St g [232, 379, 735] s.heap := S.less hW
  refine wpAny_call ?_
  refine enterL (W := [232, 379, 735]) [("script", .ref la)] (fun L => [("pen", L + 1)]) G S1 ((fn_at G S (f752 w)).trans rfl) (by kernel_rfl) (by walk_at "dq") (by rfl) (fun _ => rfl) (fun _ x hx => by
    rw [List.mem_singleton.mp hx]; exact .inl rfl) ?_
  intro L h₁ tk C nL nL1 k0 cells
  refine noE ?_
  have ic := cells (ofString "pen") _ rfl
  have x1 : h₁.IsList la (xs.map fun x => Value.int x.1 x.2).toArray := by obtain ⟨o, e, r⟩ := x; exact ⟨o, k0 _ _ e, r⟩
  have tb1 : Tb h₁ := tb.go0 (Keep2.all (W := []) k0)
  repeat walk1
  refine C_pen G C.st hh (by first | walk_at "dr" | (show A.depth + 1 + 4 < _; omega)) x1 hz fun P pc h2 tk2 nP npc k2 po2 => ?_
  have C2 := C.gs k2
  have ic2 := IsCell.go k2 ic
  have zP := C.none_of nP
  have zpc := C.none_of npc
  try dsimp only
  refine wpAny_storeName_cell (c := L + 1) (by rfl) (by kernel_rfl!) (by rfl) ic2 fun h3 ic3 sb3 => ?_
  have kb3 : ∀ b o, h2.get? b = some o → b ∉ [L + 1] → h3.get? b = some o := fun b o e n => (sb3.2 b fun q => n (q ▸ .head _)).trans e
  have gc : g.get? (L + 1) = none := none_back (fun b o e => ⟨o, S.sub b o e⟩) nL1
  have wc : ∀ a ∈ [L + 1], a ∉ ([232, 379, 735] : List Addr) := fun a q => by
    have n := Tb.ne tb nL1
    rw [List.mem_singleton.mp q]
    simp [n.1, n.2.1, n.2.2]
  have po3 := po2.cell ic2 kb3
  have tb3 : Tb h3 := (tb1.go0 k2).cell ic2 kb3
  have C3 := (C2.overs kb3 (by simpa using nL1) (by simp) (by simpa using gc) wc).addW0 zP.2.1 po3.live zP.2.2.2
  clear C C2
  have ce3 : h3.IsCell (L + 1) (some (.ref P)) := ic3
  walk1; walk1
  with_unfolding_all refine listcomp_assign [("pen", L + 1)] (by rfl) (by rfl) (by rfl) (by decide) ?_
  repeat ((fail_if_success (with_reducible show wpAny _ _ (pyIter _) _ _ _)); walk1)
  rename Heap => h4
  rename Cx g [P, 232, 379, 735] s.heap _ _ h4 => C4
  rename Keep2 [] _ h4 => k4
  rename h4.get? _ = some (tupO _) => e4
  have C40 : h4.Ns L _ := C4.ns
  have tb4 : Tb h4 := tb3.go0 k4
  have po4 : PenOk pc h4 P 0 := po3.go0 k4
  have ce4 : h4.IsCell (L + 1) (some (.ref P)) := IsCell.go k4 ce3
  have nPt := Tb.ne tb1 nP
  have dead : ∀ y, h4.get? y = none → y ≠ P ∧ y ≠ pc ∧ y ≠ 232 ∧ y ≠ 379 ∧ y ≠ 735 := fun y n => ⟨dead_ne n po4.live, dead_ne n po4.cells, dead_ne n tb4.a.live, dead_ne n tb4.b.live, dead_ne n tb4.c.live⟩
  refine comp_over_as (n := 7) (by kernel_rfl) (by rfl) (fun I a K i vs h => Tb h ∧ PenOk pc h P (3 * i) ∧ h.IsCell (L + 1) (some (.ref P)) ∧ (∀ y ∈ [a, K, I], y ≠ P ∧ y ≠ pc ∧ y ≠ 232 ∧ y ≠ 379 ∧ y ≠ 735) ∧ vs.length = i ∧ ∀ (j : Nat) (v : Value), vs[j]? = some v → LeafAt h [P, a, K, I, L] j v) C4 nL (.inr ⟨_, e4, rfl, _, rfl⟩) (tup_nin e4 tb4 po4) rfl hh (by decide) (by decide) (by rfl) ⟨?_, ?_, ?_⟩ ?_
  · intro I a K h' nI na nK k
    refine ⟨tb4.go0 k, po4.go0 k, IsCell.go k ce4, fun y q => dead y ?_, rfl, fun j v e => by simp at e⟩
    simp only [List.mem_cons, List.not_mem_nil, or_false] at q
    rcases q with q | q | q
    · exact q ▸ na
    · exact q ▸ nK
    · exact q ▸ nI
  · rintro I a K i vs h h' ⟨j1, j2, j3, j4, j5, j6⟩ k
    exact ⟨j1.goZ k fun y q => (j4 y q).2.2, j2.goZ k (fun q => (j4 _ q).1 rfl) (fun q => (j4 _ q).2.1 rfl), IsCell.goZ k j3, j4, j5, fun j v e => (j6 j v e).goZ k (by simp)⟩
  · intro I a K i v vs h' tk3 m' nI na nK aK hi hv hP Cc zK kk laL lI hJ E'
    refine bc fun hGo => ?_
    obtain ⟨j1, j2, j3, j4, j5, j6⟩ := hJ
    obtain ⟨kind, t, rfl, hk1⟩ := seven hP
    refine hGo ?_; clear hGo
    refine wpAny_assign_Name (store (s := ⟨h', s.gens, s.drawn, tk3, s.os⟩) (env := compEnvC _ [("pen", L + 1)] K _) Cc (fun h5 C5 k5 => ?_) (by rfl) (by kernel_rfl))
    have kz5 : KeepZ [a, K, I] h' h5 := k5.z fun x q => List.mem_singleton.mp q ▸ .tail _ (.head _)
    have ce5 : h5.IsCell (L + 1) (some (.ref P)) := IsCell.go k5 j3
    have po5 := j2.goZ kz5 (fun q => (j4 _ q).1 rfl) (fun q => (j4 _ q).2.1 rfl)
    have tb5 := j1.goZ kz5 fun y q => (j4 y q).2.2
    try dsimp only
    clear C4 Cc
    repeat walk1
    refine C_leafK (kind := kind) G (Cx.st (by assumption)) (by simp) hh (by first | walk_at "dr" | (show A.depth + 1 + 12 < _; omega)) po5 (by omega) fun b l dv us d bb h6 tk6 nl k6 po6 e6 tl6 at6 lf6 kb6 => ?_
    have C6 := Cx.gs (by assumption) k6
    try dsimp only
    refine ⟨⟨h6, tk6, _, rfl, C6, (k5.more ?_).trans (k6.more (by simp)), tb5.go k6 (fun y q => List.mem_singleton.mp q ▸ nPt), po6, IsCell.go k6 ce5, j4, by simp [hv], fun j v e => ?_⟩⟩
    · exact fun x q => List.mem_singleton.mp q ▸ .head _
    · rcases Nat.lt_or_ge j vs.length with c | c
      · rw [List.getElem?_append_left c] at e
        exact ((j6 j v e).goZ kz5 (by simp)).goZ (k6.z fun _ q => q) (by simp)
      · have ej : j = vs.length := by
          have := (List.getElem?_eq_some_iff.mp e).1
          simp at this; omega
        subst ej
        rw [List.getElem?_append_right (Nat.le_refl _)] at e
        simp at e
        subst e
        have up : ∀ {y : Addr}, (∃ o, h'.get? y = some o) → ∃ o, h5.get? y = some o := fun ⟨o, q⟩ => k5.live _ o q
        have lL : ∃ o, h5.get? L = some o := up (let ⟨o, _, _, q, _⟩ := C40; kk.live _ o q)
        have lK : ∃ o, h5.get? K = some o := by obtain ⟨o, _, _, q, _⟩ := C5.ns; exact ⟨o, q⟩
        refine ⟨b, l, dv, us, d, bb, rfl, ⟨e6, tl6, at6⟩, lf6, fun q => kb6 (hk1 (by omega)), fun q => ?_⟩
        simp only [List.mem_cons, List.not_mem_nil, or_false] at q
        rcases q with q | q | q | q | q
        · exact dead_ne nl po5.live q
        · exact dead_ne nl (up laL) q
        · exact dead_ne nl lK q
        · exact dead_ne nl (up lI) q
        · exact dead_ne nl lL q
  · intro I a K vs h' tk3 n' nI na nK Cc kk hx ha hv
    refine bc fun hGo => ?_
    obtain ⟨h5, kk5, ⟨j1, j2, j3, j4, j5, j6⟩, kz⟩ := hx
    refine hGo ?_; clear hGo
    have nKL : ∀ y ∈ [K, L], y ≠ P ∧ y ≠ pc ∧ y ≠ 232 ∧ y ≠ 379 ∧ y ≠ 735 := fun y q => by
      rcases List.mem_cons.mp q with q | q
      · exact j4 y (q ▸ .tail _ (.head _))
      · rw [List.mem_singleton.mp q]
        have z := Tb.ne tb nL
        exact ⟨Ne.symm zP.2.2.2, Ne.symm zpc.2.2.2, z.1, z.2.1, z.2.2⟩
    have tb7 : Tb h' := j1.goZ kz fun y q => (nKL y q).2.2
    have S7 : Sta h' [P, L] (L + 1) P pc a vs 21 := ⟨j2.goZ kz (fun q => (nKL _ q).1 rfl) (fun q => (nKL _ q).2.1 rfl), IsCell.goZ kz j3, ⟨n', ha⟩, fun j v e => ((j6 j v e).goZ kz (by simp)).less (by simp)⟩
    have C41 := C4
    clear C4
    try dsimp only
    repeat ((fail_if_success (with_reducible show wpAny _ _ (pyIter _) _ _ _)); walk1)
    have aa := j4 a (.head _)
    have na0 := (Cx.none_of C41 na).2.2
    have aW : a ∉ ([P, 232, 379, 735] : List Addr) := na0.1
    have Ln : L ≠ P ∧ L ≠ pc ∧ L ≠ a := ⟨Ne.symm zP.2.2.2, Ne.symm zpc.2.2.2, Ne.symm na0.2⟩
    have Lt := Tb.ne tb nL
    refine for_inv (fun I m h => Tb h ∧ Sta h [I, P, L] (L + 1) P pc a vs 21 ∧ m (ofString "leaves_told") = some (.ref a)) Cc (list_at ha) aW hh (by kernel_rfl) (by kernel_rfl) ?_ ?_ ?_
    · intro I2 h8 nI2 k8
      exact ⟨tb7.go0 k8, (S7.wide nI2).goN k8 NoL2.nil, by with_unfolding_all rfl⟩
    · rintro I2 i v m9 h9 h10 tk10 nI2 hv ⟨tb9, S9, hm9⟩ C10 k10
      have In : I2 ≠ P ∧ I2 ≠ pc ∧ I2 ≠ a := ⟨dead_ne nI2 S7.po.live, dead_ne nI2 S7.po.cells, dead_ne nI2 ⟨_, ha⟩⟩
      have It := Tb.ne tb7 nI2
      have tb10 : Tb h10 := tb9.go k10 fun y q => by
        rcases List.mem_cons.mp q with q | q
        · exact q ▸ Lt
        · exact List.mem_singleton.mp q ▸ It
      have S10 : Sta h10 [I2, P, L] (L + 1) P pc a vs 21 := S9.goZ (k10.z fun _ q => q) (fun y q => by
        rcases List.mem_cons.mp q with q | q
        · exact q ▸ .tail _ (.tail _ (.head _))
        · exact List.mem_singleton.mp q ▸ .head _) (fun y q => by
        rcases List.mem_cons.mp q with q | q
        · exact q ▸ Ln
        · exact List.mem_singleton.mp q ▸ In)
      refine bc fun hGo => ?_
      obtain ⟨b, l, dv, us, d, bb, rfl, ca, lf, _, _⟩ := S10.lf i v hv
      refine hGo ?_; clear hGo
      clear Cc
      try dsimp only
      repeat walk1
      refine C_both (n := 0) (fs := [_]) G C10.st (by simp) hh (by first | walk_at "dr" | (show A.depth + 1 + 62 + 10 * 0 < _; omega)) (by show A.units + 3 + 210 < _; omega) tb10 ca lf.law (by decide) (Around.frames_deeper hfr) (FF.one C10 (fun q => C10.nL (.tail _ q)) (by exact fun q => nomatch q) (by rfl)) (goffs C10 (fun x q => nomatch q) (by rfl)) fun h11 tk11 k11 tb11 => ?_
      have C11 := C10.goF1 k11 (by rfl) (fun x q => .tail _ q)
      have S11 := S10.goN (k11.keep1 (L := L) (by rfl)) (NoL2.app (X := [L]) (NoL2.ns C10.ns) (NoL2.tab tb10))
      try dsimp only
      clear C10
      repeat walk1
      exact ⟨⟨h11, _, _, rfl, C11, tb11, S11, by with_unfolding_all exact hm9⟩⟩
    · rintro I2 m9 h9 h10 tk10 nI2 ⟨tb9, S9, hm9⟩ C10 k10
      have In : I2 ≠ P ∧ I2 ≠ pc ∧ I2 ≠ a := ⟨dead_ne nI2 S7.po.live, dead_ne nI2 S7.po.cells, dead_ne nI2 ⟨_, ha⟩⟩
      have It := Tb.ne tb7 nI2
      have tb10 : Tb h10 := tb9.goZ k10 fun y q => List.mem_singleton.mp q ▸ It
      have S10 : Sta h10 [P, L] (L + 1) P pc a vs 21 := (S9.goZ k10 (fun y q => List.mem_singleton.mp q ▸ .head _) (fun y q => List.mem_singleton.mp q ▸ In)).less (by simp)
      obtain ⟨v0, v1, v2, v3, vr, rfl, hvr⟩ : ∃ v0 v1 v2 v3 vr, vs = v0 :: v1 :: v2 :: v3 :: vr ∧ vr.length = 3 := by
        rcases vs with _ | ⟨v0, _ | ⟨v1, _ | ⟨v2, _ | ⟨v3, vr⟩⟩⟩⟩
        · simp at j5
        · simp at j5
        · simp at j5
        · simp at j5
        · exact ⟨v0, v1, v2, v3, vr, rfl, by simp at j5; omega⟩
      clear Cc S9 tb9
      try dsimp only
      repeat ((fail_if_success (with_reducible show wpAny _ _ (subscriptTail _ _ _ _) _ _ _)); walk1)
      refine bc fun hGo => ?_
      obtain ⟨n10, el10⟩ := S10.li
      refine hGo ?_; clear hGo
      refine slice24 (s := ⟨_, _, _, _, _⟩) (list_at el10) (by omega) fun lb h12 k12 e12 n12 => ?_
      have C12 := C10.gs k12
      have zb := C10.none_of n12
      have tb12 : Tb h12 := tb10.go0 k12
      have S12 := S10.go0 k12
      clear C10 S10
      try dsimp only
      refine for_inv (fun I m h => Tb h ∧ Sta h [I, P, L] (L + 1) P pc a (v0 :: v1 :: v2 :: v3 :: vr) 21 ∧ m (ofString "leaves_told") = some (.ref a)) C12 (list_at e12) zb.2.2.1 hh (by kernel_rfl) (by kernel_rfl) ?_ ?_ ?_
      · intro I2 h8 nI2 k8
        exact ⟨tb12.go0 k8, (S12.wide nI2).go0 k8, by with_unfolding_all exact hm9⟩
      · rintro I3 i v m13 h13 h14 tk14 nI3 hv ⟨tb13, S13, hm13⟩ C14 k14
        have In : I3 ≠ P ∧ I3 ≠ pc ∧ I3 ≠ a := ⟨dead_ne nI3 S12.po.live, dead_ne nI3 S12.po.cells, dead_ne nI3 (let ⟨_, e⟩ := S12.li; ⟨_, e⟩)⟩
        have It := Tb.ne tb12 nI3
        have tb14 : Tb h14 := tb13.go k14 fun y q => by
          rcases List.mem_cons.mp q with q | q
          · exact q ▸ Lt
          · exact List.mem_singleton.mp q ▸ It
        have S14 : Sta h14 [I3, P, L] (L + 1) P pc a (v0 :: v1 :: v2 :: v3 :: vr) 21 := S13.goZ (k14.z fun _ q => q) (fun y q => by
          rcases List.mem_cons.mp q with q | q
          · exact q ▸ .tail _ (.tail _ (.head _))
          · exact List.mem_singleton.mp q ▸ .head _) (fun y q => by
          rcases List.mem_cons.mp q with q | q
          · exact q ▸ Ln
          · exact List.mem_singleton.mp q ▸ In)
        obtain ⟨j, hj⟩ : ∃ j : Nat, (v0 :: v1 :: v2 :: v3 :: vr)[j]? = some v := by
          rcases i with _ | _ | i
          · exact ⟨2, hv⟩
          · exact ⟨3, hv⟩
          · simp at hv
        refine bc fun hGo => ?_
        obtain ⟨b, l, dv, us, d, bb, rfl, ca, lf, _, _⟩ := S14.lf j v hj
        obtain ⟨b1, l1, dv1, us1, d1, bb1, rfl, ca1, lf1, q1, _⟩ := S14.lf 1 v1 rfl
        refine hGo ?_; clear hGo
        obtain rfl := q1 rfl
        refine bc fun hGo => ?_
        obtain ⟨n14, el14⟩ := S14.li
        refine hGo ?_; clear hGo
        have T14 : Ats h14 [(dv, d), (dv1, d1)] := (Ats.nil.add ca1.2.2).add ca.2.2
        have tl14 := ca.2.1
        have tl15 := ca1.2.1
        have lz := lf.len
        have lz1 := lf1.len
        clear C12
        try dsimp only
        repeat walk1
        refine l_item (vs := _ :: _) (list_at el14) (by decide) (by decide) rfl ?_
        repeat walk1
        rename Heap => h15
        rename Cx g _ h14 _ _ h15 => C15
        have tb15 : Tb h15 := by walk_at "tb"
        have S15 : Sta h15 [I3, P, L] (L + 1) P pc a (v0 :: .ref b1 :: v2 :: v3 :: vr) 21 := by walk_at "sta"
        refine C_both (n := 1) (us := us1 ++ [wd (ofString "AND")] ++ us) (d := .tuple [.str (ofString "and"), d1, d]) (b := bb) (fs := [_]) G C15.st (by simp) hh (by first | walk_at "dr" | (show A.depth + 1 + 62 + 10 * 1 < _; omega)) (by show A.units + 3 + 210 < _; omega) tb15 ⟨by walk_at "stab", by walk_at "tl", by walk_at "at2"⟩ (lf1.pair lf) (by decide) (Around.frames_deeper hfr) (FF.one C15 (fun q => C15.nL (.tail _ q)) (by exact fun q => nomatch q) (by rfl)) (goffs C15 (fun x q => nomatch q) (by rfl)) fun h16 tk16 k16 tb16 => ?_
        have C16 := C15.goF1 k16 (by rfl) (fun x q => .tail _ q)
        have S16 := S15.goN (k16.keep1 (L := L) (by rfl)) (NoL2.app (X := [L]) (NoL2.ns C15.ns) (NoL2.tab tb15))
        try dsimp only
        clear C15
        repeat walk1
        exact ⟨⟨h16, _, _, rfl, C16, tb16, S16, by with_unfolding_all exact hm13⟩⟩
      · rintro I3 m13 h13 h14 tk14 nI3 ⟨tb13, S13, hm13⟩ C14 k14
        have In : I3 ≠ P ∧ I3 ≠ pc ∧ I3 ≠ a := ⟨dead_ne nI3 S12.po.live, dead_ne nI3 S12.po.cells, dead_ne nI3 (let ⟨_, e⟩ := S12.li; ⟨_, e⟩)⟩
        have It := Tb.ne tb12 nI3
        have tb14 : Tb h14 := tb13.goZ k14 fun y q => List.mem_singleton.mp q ▸ It
        have S14 : Sta h14 [P, L] (L + 1) P pc a (v0 :: v1 :: v2 :: v3 :: vr) 21 := (S13.goZ k14 (fun y q => List.mem_singleton.mp q ▸ .head _) (fun y q => List.mem_singleton.mp q ▸ In)).less (by simp)
        have ce14 := S14.ce
        clear C12
        try dsimp only
        repeat walk1
        have dp : A.depth + 1 + 14 + 2 * 2 < recursionLimit := by omega
        show wpAny _ _ (call (.ref 726) [.ref P, .int ((2 : Nat) : Int) _, .int ((4 : Nat) : Int) _]) _ _ _
        refine cond_two G C14.st (by simp) hh dp S14.po (by decide) (by decide) (by decide) fun b l dv us d bb h15 tk15 nl k15 po15 e15 tl15 at15 lc => ?_
        have C15 := C14.gs k15
        have tb15 : Tb h15 := tb14.go k15 fun y q => List.mem_singleton.mp q ▸ nPt
        clear C14
        try dsimp only
        repeat walk1
        refine C_both (n := 2) (fs := [_]) G C15.st (by simp) hh (by first | walk_at "dr" | (show A.depth + 1 + 62 + 10 * 2 < _; omega)) (by show A.units + 3 + 210 < _; omega) tb15 ⟨e15, tl15, at15⟩ (lc.law (by decide)) (by decide) (Around.frames_deeper hfr) (FF.one C15 (fun q => C15.nL (.tail _ q)) (by exact fun q => nomatch q) (by rfl)) (goffs C15 (fun x q => nomatch q) (by rfl)) fun h16 tk16 k16 tb16 => ?_
        have C16 := C15.goF1 k16 (by rfl) (fun x q => .tail _ q)
        have k16' := k16.keep1 (L := L) (by rfl)
        have po16 := po15.goN k16' (NoL2.app (X := [L]) (NoL2.ns C15.ns) (NoL2.tab tb15))
        have ce16 : h16.IsCell (L + 1) (some (.ref P)) := IsCell.go k16' (IsCell.go k15 ce14)
        try dsimp only
        clear C15
        repeat walk1
        show wpAny _ _ (call (.ref 726) [.ref P, .int ((2 : Nat) : Int) _, .int ((8 : Nat) : Int) _]) _ _ _
        refine cond_two G C16.st (by simp) hh dp po16 (by decide) (by decide) (by decide) fun b l dv us d bb h17 tk17 nl k17 po17 e17 tl17 at17 lc => ?_
        have C17 := C16.gs k17
        have tb17 : Tb h17 := tb16.go k17 fun y q => List.mem_singleton.mp q ▸ nPt
        clear C16
        try dsimp only
        repeat walk1
        refine C_both (n := 2) (fs := [_]) G C17.st (by simp) hh (by first | walk_at "dr" | (show A.depth + 1 + 62 + 10 * 2 < _; omega)) (by show A.units + 3 + 210 < _; omega) tb17 ⟨e17, tl17, at17⟩ (lc.law (by decide)) (by decide) (Around.frames_deeper hfr) (FF.one C17 (fun q => C17.nL (.tail _ q)) (by exact fun q => nomatch q) (by rfl)) (goffs C17 (fun x q => nomatch q) (by rfl)) fun h18 tk18 k18 tb18 => ?_
        have C18 := C17.goF1 k18 (by rfl) (fun x q => .tail _ q)
        try dsimp only
        clear C17
        repeat walk1
        try dsimp only
        exact h _ _ ⟨fun b o e n => C18.k.keep b o e fun q => by
          rcases List.mem_cons.mp q with q | q
          · rw [q, nL] at e; cases e
          rcases List.mem_cons.mp q with q | q
          · rw [q, zP.1] at e; cases e
          · exact n q, C18.k.live, C18.k.stab⟩ tb18
end
end Mine
end
open PySem PySem.W PySem.Calls PyProof.Rows
namespace Mine
theorem ints_of : ∀ {vs : List Value} {ns : List Int}, IntsAre vs ns → ∃ ys : List (Int × Tok), vs = ys.map (fun x => Value.int x.1 x.2) ∧ ys.length = ns.length
  | _, _, .nil => ⟨[], rfl, rfl⟩
  | _, _, .cons n t h => let ⟨ys, a, b⟩ := ints_of h; ⟨(n, t) :: ys, by rw [a]; rfl, by simp [b]⟩
theorem old_of {h h' : Heap} (hT : TabsAt [(236, 232), (383, 379), (739, 735)] h) (k : Keep2 [232, 379, 735] h h') (tb : Tb h') : OldK h h' := by
  have t : ∀ c P ps, CodeHd h c P → h.get? P = some (tabObj #[]) → h'.get? P = some (tabObj ps) → asItWas h h' P (tabObj #[]) := fun c P ps a b e =>
    .inr (.inl ⟨(a.tab b).isCodeTable, rfl, #[], ps, rfl, by rw [e]; simp [tabObj]⟩)
  obtain ⟨⟨ps1, e1, _⟩, ⟨ps2, e2, _⟩, ⟨ps3, e3, _⟩⟩ := tb
  refine ⟨fun b o e => ?_, k.live⟩
  by_cases q : b ∈ ([232, 379, 735] : List Addr)
  · simp only [List.mem_cons, List.not_mem_nil, or_false] at q
    rcases q with q | q | q
    · subst q
      obtain ⟨a, b⟩ := hT (236, 232) (by simp)
      have b' : h.get? 232 = _ := b
      rw [b'] at e; cases e
      exact t _ _ _ a b e1
    · subst q
      obtain ⟨a, b⟩ := hT (383, 379) (by simp)
      have b' : h.get? 379 = _ := b
      rw [b'] at e; cases e
      exact t _ _ _ a b e2
    · subst q
      obtain ⟨a, b⟩ := hT (739, 735) (by simp)
      have b' : h.get? 735 = _ := b
      rw [b'] at e; cases e
      exact t _ _ _ a b e3
  · exact .inl (k.keep b o e q)
end Mine
set_option maxHeartbeats 1000000 in
theorem PySem.Challenge.cw_pb0281_01_holds : PySem.Challenge.rw_pb0281_01.Holds := by
  w_on
  refine holds_law Mine.well fun said => ?_
  refine holds_open (q := Mine.q) (loose := Mine.loose) (Xt := Mine.Xt) (XP := XL Mine.q []) (YP := (kmHook Mine.K Mine.as Mine.as_is [232, 379, 735]).says) (N := 10000) Mine.left
    (Hook.of (kmHook Mine.K Mine.as Mine.as_is [232, 379, 735])) (Hook.keeps (kmHook Mine.K Mine.as Mine.as_is [232, 379, 735])) (fun s e => xl_of s (Bool.and_eq_true_iff.mp e).1) XL.keeps (by rfl) (by rfl) (by rfl)
    (fun s e => recFacts_of (Bool.and_eq_true_iff.mp e).2) (by rfl) said (by decide +kernel) ⟨rfl, rfl, rfl, rfl, rfl, Mine.tabs1⟩ ?hw ?hc
  case hw => w_witness2
  k_fill
  intro w s₀ s₁ mg mb G Y fa o pm cd doc dV kV ho hd hcd hD hmg hg args vals as hpre hlay hrd hwl hlo
  have KX := km_in_of Y
  km_tabs Y
  have X := (Ground.X G).1
  have V := (Ground.X G).2
  refine Ground.open G ?_
  intro T B D TE TW
  try (refine guard_noD D (by decide +kernel) ?_; clear D)
  have hfa : fa = 752 := by
    have e : mg "law" = some (.ref 752) := mg_of KX T.g (Mine.gl_law w)
    rw [hmg] at e; cases e; rfl
  km_lay T hmg ho hd cd
  clear hmg
  wrow_args hpre hlay hrd hwl hlo
  rename IntsAre _ _ => hI
  rename ¬ _ < _ => hlen
  rename s₁.heap.IsList _ _ => hlist
  obtain ⟨ys, hv, hy⟩ := Mine.ints_of hI
  subst hfa hv
  have G1 : Mine.Gd w (hideAll s₁.heap [232, 379, 735]) := ⟨ghost_K hT9 KX (by kernel_rfl), ⟨_, _, _, _, _, ghost_top hT9 T⟩⟩
  have S1 : Mine.St (hideAll s₁.heap [232, 379, 735]) [232, 379, 735] s₁.heap := ⟨fun b o e => of_hideAll _ e, fun a q => hideAll_none _ q, fun a q => ⟨_, hT8 a q⟩⟩
  have tb1 : Mine.Tb s₁.heap := ⟨⟨_, hT8 232 (by simp), .inl rfl⟩, ⟨_, hT8 379 (by simp), .inl rfl⟩, ⟨_, hT8 735 (by simp), .inl rfl⟩⟩
  refine Mine.C_law G1 S1 (fun _ q => q) rfl (by decide +kernel) (by decide +kernel) tb1 hlist (by omega) rfl fun h' tk k tb => ?_
  exact ⟨.inl ⟨.bool true, .bool true, [], rfl, fun _ => rfl, .bool true, (by with_unfolding_all rfl), fun _ => ⟨.nil, fun _ q => nomatch q⟩⟩, Mine.old_of hT9 k tb, rfl, .of_eq hg⟩
