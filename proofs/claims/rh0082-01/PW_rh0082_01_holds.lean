import PyProof.Rows.All
import Wide.All
import OpenK.AllK
import Lean
import PySem.Challenge.RW_rh0082_01
set_option Elab.async false
set_option linter.all false
set_option maxRecDepth 100000
set_option maxHeartbeats 2000000
open PySem PySem.W PyProof.Rows
namespace Mine
noncomputable section
theorem at0 : Str.ofString "" = ⟨⟨[]⟩⟩ := rfl
theorem at1 : Str.ofString "!" = ⟨⟨[nat_lit 33]⟩⟩ := rfl
theorem at2 : Str.ofString "$VAR" = ⟨⟨[nat_lit 36,nat_lit 86,nat_lit 65,nat_lit 82]⟩⟩ := rfl
theorem at3 : Str.ofString "*" = ⟨⟨[nat_lit 42]⟩⟩ := rfl
theorem at4 : Str.ofString "+" = ⟨⟨[nat_lit 43]⟩⟩ := rfl
theorem at5 : Str.ofString "," = ⟨⟨[nat_lit 44]⟩⟩ := rfl
theorem at6 : Str.ofString "-" = ⟨⟨[nat_lit 45]⟩⟩ := rfl
theorem at7 : Str.ofString "-->" = ⟨⟨[nat_lit 45,nat_lit 45,nat_lit 62]⟩⟩ := rfl
theorem at8 : Str.ofString "->" = ⟨⟨[nat_lit 45,nat_lit 62]⟩⟩ := rfl
theorem at9 : Str.ofString "." = ⟨⟨[nat_lit 46]⟩⟩ := rfl
theorem at10 : Str.ofString ".0" = ⟨⟨[nat_lit 46,nat_lit 48]⟩⟩ := rfl
theorem at11 : Str.ofString "/" = ⟨⟨[nat_lit 47]⟩⟩ := rfl
theorem at12 : Str.ofString "/claim/cut.py" = ⟨⟨[nat_lit 47,nat_lit 99,nat_lit 108,nat_lit 97,nat_lit 105,nat_lit 109,nat_lit 47,nat_lit 99,nat_lit 117,nat_lit 116,nat_lit 46,nat_lit 112,nat_lit 121]⟩⟩ := rfl
theorem at13 : Str.ofString ":-" = ⟨⟨[nat_lit 58,nat_lit 45]⟩⟩ := rfl
theorem at14 : Str.ofString ";" = ⟨⟨[nat_lit 59]⟩⟩ := rfl
theorem at15 : Str.ofString "=" = ⟨⟨[nat_lit 61]⟩⟩ := rfl
theorem at16 : Str.ofString "?-" = ⟨⟨[nat_lit 63,nat_lit 45]⟩⟩ := rfl
theorem at17 : Str.ofString "A_BAR" = ⟨⟨[nat_lit 65,nat_lit 95,nat_lit 66,nat_lit 65,nat_lit 82]⟩⟩ := rfl
theorem at18 : Str.ofString "A_CUT" = ⟨⟨[nat_lit 65,nat_lit 95,nat_lit 67,nat_lit 85,nat_lit 84]⟩⟩ := rfl
theorem at19 : Str.ofString "A_NIL" = ⟨⟨[nat_lit 65,nat_lit 95,nat_lit 78,nat_lit 73,nat_lit 76]⟩⟩ := rfl
theorem at20 : Str.ofString "A_SYSTEM" = ⟨⟨[nat_lit 65,nat_lit 95,nat_lit 83,nat_lit 89,nat_lit 83,nat_lit 84,nat_lit 69,nat_lit 77]⟩⟩ := rfl
theorem at21 : Str.ofString "A_TRUE" = ⟨⟨[nat_lit 65,nat_lit 95,nat_lit 84,nat_lit 82,nat_lit 85,nat_lit 69]⟩⟩ := rfl
theorem at22 : Str.ofString "ClausemillError" = ⟨⟨[nat_lit 67,nat_lit 108,nat_lit 97,nat_lit 117,nat_lit 115,nat_lit 101,nat_lit 109,nat_lit 105,nat_lit 108,nat_lit 108,nat_lit 69,nat_lit 114,nat_lit 114,nat_lit 111,nat_lit 114]⟩⟩ := rfl
theorem at23 : Str.ofString "Exception" = ⟨⟨[nat_lit 69,nat_lit 120,nat_lit 99,nat_lit 101,nat_lit 112,nat_lit 116,nat_lit 105,nat_lit 111,nat_lit 110]⟩⟩ := rfl
theorem at24 : Str.ofString "F_ARROW" = ⟨⟨[nat_lit 70,nat_lit 95,nat_lit 65,nat_lit 82,nat_lit 82,nat_lit 79,nat_lit 87]⟩⟩ := rfl
theorem at25 : Str.ofString "F_COMMA" = ⟨⟨[nat_lit 70,nat_lit 95,nat_lit 67,nat_lit 79,nat_lit 77,nat_lit 77,nat_lit 65]⟩⟩ := rfl
theorem at26 : Str.ofString "F_CURLY" = ⟨⟨[nat_lit 70,nat_lit 95,nat_lit 67,nat_lit 85,nat_lit 82,nat_lit 76,nat_lit 89]⟩⟩ := rfl
theorem at27 : Str.ofString "F_DOT" = ⟨⟨[nat_lit 70,nat_lit 95,nat_lit 68,nat_lit 79,nat_lit 84]⟩⟩ := rfl
theorem at28 : Str.ofString "F_EQUAL" = ⟨⟨[nat_lit 70,nat_lit 95,nat_lit 69,nat_lit 81,nat_lit 85,nat_lit 65,nat_lit 76]⟩⟩ := rfl
theorem at29 : Str.ofString "F_ERROR" = ⟨⟨[nat_lit 70,nat_lit 95,nat_lit 69,nat_lit 82,nat_lit 82,nat_lit 79,nat_lit 82]⟩⟩ := rfl
theorem at30 : Str.ofString "F_GRAMMAR" = ⟨⟨[nat_lit 70,nat_lit 95,nat_lit 71,nat_lit 82,nat_lit 65,nat_lit 77,nat_lit 77,nat_lit 65,nat_lit 82]⟩⟩ := rfl
theorem at31 : Str.ofString "F_NECK" = ⟨⟨[nat_lit 70,nat_lit 95,nat_lit 78,nat_lit 69,nat_lit 67,nat_lit 75]⟩⟩ := rfl
theorem at32 : Str.ofString "F_NOT" = ⟨⟨[nat_lit 70,nat_lit 95,nat_lit 78,nat_lit 79,nat_lit 84]⟩⟩ := rfl
theorem at33 : Str.ofString "F_SEMI" = ⟨⟨[nat_lit 70,nat_lit 95,nat_lit 83,nat_lit 69,nat_lit 77,nat_lit 73]⟩⟩ := rfl
theorem at34 : Str.ofString "Fresh" = ⟨⟨[nat_lit 70,nat_lit 114,nat_lit 101,nat_lit 115,nat_lit 104]⟩⟩ := rfl
theorem at35 : Str.ofString "GrammarTree" = ⟨⟨[nat_lit 71,nat_lit 114,nat_lit 97,nat_lit 109,nat_lit 109,nat_lit 97,nat_lit 114,nat_lit 84,nat_lit 114,nat_lit 101,nat_lit 101]⟩⟩ := rfl
theorem at36 : Str.ofString "GrammarVariables" = ⟨⟨[nat_lit 71,nat_lit 114,nat_lit 97,nat_lit 109,nat_lit 109,nat_lit 97,nat_lit 114,nat_lit 86,nat_lit 97,nat_lit 114,nat_lit 105,nat_lit 97,nat_lit 98,nat_lit 108,nat_lit 101,nat_lit 115]⟩⟩ := rfl
theorem at37 : Str.ofString "NIL" = ⟨⟨[nat_lit 78,nat_lit 73,nat_lit 76]⟩⟩ := rfl
theorem at38 : Str.ofString "PrologError" = ⟨⟨[nat_lit 80,nat_lit 114,nat_lit 111,nat_lit 108,nat_lit 111,nat_lit 103,nat_lit 69,nat_lit 114,nat_lit 114,nat_lit 111,nat_lit 114]⟩⟩ := rfl
theorem at39 : Str.ofString "Symbols" = ⟨⟨[nat_lit 83,nat_lit 121,nat_lit 109,nat_lit 98,nat_lit 111,nat_lit 108,nat_lit 115]⟩⟩ := rfl
theorem at40 : Str.ofString "[]" = ⟨⟨[nat_lit 91,nat_lit 93]⟩⟩ := rfl
theorem at41 : Str.ofString "\\+" = ⟨⟨[nat_lit 92,nat_lit 43]⟩⟩ := rfl
theorem at42 : Str.ofString "^" = ⟨⟨[nat_lit 94]⟩⟩ := rfl
theorem at43 : Str.ofString "__init__" = ⟨⟨[nat_lit 95,nat_lit 95,nat_lit 105,nat_lit 110,nat_lit 105,nat_lit 116,nat_lit 95,nat_lit 95]⟩⟩ := rfl
theorem at44 : Str.ofString "__name__" = ⟨⟨[nat_lit 95,nat_lit 95,nat_lit 110,nat_lit 97,nat_lit 109,nat_lit 101,nat_lit 95,nat_lit 95]⟩⟩ := rfl
theorem at45 : Str.ofString "_law_coin" = ⟨⟨[nat_lit 95,nat_lit 108,nat_lit 97,nat_lit 119,nat_lit 95,nat_lit 99,nat_lit 111,nat_lit 105,nat_lit 110]⟩⟩ := rfl
theorem at46 : Str.ofString "_law_coins" = ⟨⟨[nat_lit 95,nat_lit 108,nat_lit 97,nat_lit 119,nat_lit 95,nat_lit 99,nat_lit 111,nat_lit 105,nat_lit 110,nat_lit 115]⟩⟩ := rfl
theorem at47 : Str.ofString "_law_list_fault" = ⟨⟨[nat_lit 95,nat_lit 108,nat_lit 97,nat_lit 119,nat_lit 95,nat_lit 108,nat_lit 105,nat_lit 115,nat_lit 116,nat_lit 95,nat_lit 102,nat_lit 97,nat_lit 117,nat_lit 108,nat_lit 116]⟩⟩ := rfl
theorem at48 : Str.ofString "_law_part" = ⟨⟨[nat_lit 95,nat_lit 108,nat_lit 97,nat_lit 119,nat_lit 95,nat_lit 112,nat_lit 97,nat_lit 114,nat_lit 116]⟩⟩ := rfl
theorem at49 : Str.ofString "_law_part_fault" = ⟨⟨[nat_lit 95,nat_lit 108,nat_lit 97,nat_lit 119,nat_lit 95,nat_lit 112,nat_lit 97,nat_lit 114,nat_lit 116,nat_lit 95,nat_lit 102,nat_lit 97,nat_lit 117,nat_lit 108,nat_lit 116]⟩⟩ := rfl
theorem at50 : Str.ofString "_law_row" = ⟨⟨[nat_lit 95,nat_lit 108,nat_lit 97,nat_lit 119,nat_lit 95,nat_lit 114,nat_lit 111,nat_lit 119]⟩⟩ := rfl
theorem at51 : Str.ofString "_wall" = ⟨⟨[nat_lit 95,nat_lit 119,nat_lit 97,nat_lit 108,nat_lit 108]⟩⟩ := rfl
theorem at52 : Str.ofString "a" = ⟨⟨[nat_lit 97]⟩⟩ := rfl
theorem at53 : Str.ofString "abs" = ⟨⟨[nat_lit 97,nat_lit 98,nat_lit 115]⟩⟩ := rfl
theorem at54 : Str.ofString "and" = ⟨⟨[nat_lit 97,nat_lit 110,nat_lit 100]⟩⟩ := rfl
theorem at55 : Str.ofString "append" = ⟨⟨[nat_lit 97,nat_lit 112,nat_lit 112,nat_lit 101,nat_lit 110,nat_lit 100]⟩⟩ := rfl
theorem at56 : Str.ofString "args" = ⟨⟨[nat_lit 97,nat_lit 114,nat_lit 103,nat_lit 115]⟩⟩ := rfl
theorem at57 : Str.ofString "arguments" = ⟨⟨[nat_lit 97,nat_lit 114,nat_lit 103,nat_lit 117,nat_lit 109,nat_lit 101,nat_lit 110,nat_lit 116,nat_lit 115]⟩⟩ := rfl
theorem at58 : Str.ofString "arity" = ⟨⟨[nat_lit 97,nat_lit 114,nat_lit 105,nat_lit 116,nat_lit 121]⟩⟩ := rfl
theorem at59 : Str.ofString "at" = ⟨⟨[nat_lit 97,nat_lit 116]⟩⟩ := rfl
theorem at60 : Str.ofString "atom" = ⟨⟨[nat_lit 97,nat_lit 116,nat_lit 111,nat_lit 109]⟩⟩ := rfl
theorem at61 : Str.ofString "atom_numbers" = ⟨⟨[nat_lit 97,nat_lit 116,nat_lit 111,nat_lit 109,nat_lit 95,nat_lit 110,nat_lit 117,nat_lit 109,nat_lit 98,nat_lit 101,nat_lit 114,nat_lit 115]⟩⟩ := rfl
theorem at62 : Str.ofString "back" = ⟨⟨[nat_lit 98,nat_lit 97,nat_lit 99,nat_lit 107]⟩⟩ := rfl
theorem at63 : Str.ofString "ball" = ⟨⟨[nat_lit 98,nat_lit 97,nat_lit 108,nat_lit 108]⟩⟩ := rfl
theorem at64 : Str.ofString "bar" = ⟨⟨[nat_lit 98,nat_lit 97,nat_lit 114]⟩⟩ := rfl
theorem at65 : Str.ofString "body" = ⟨⟨[nat_lit 98,nat_lit 111,nat_lit 100,nat_lit 121]⟩⟩ := rfl
theorem at66 : Str.ofString "call" = ⟨⟨[nat_lit 99,nat_lit 97,nat_lit 108,nat_lit 108]⟩⟩ := rfl
theorem at67 : Str.ofString "callable" = ⟨⟨[nat_lit 99,nat_lit 97,nat_lit 108,nat_lit 108,nat_lit 97,nat_lit 98,nat_lit 108,nat_lit 101]⟩⟩ := rfl
theorem at68 : Str.ofString "catch" = ⟨⟨[nat_lit 99,nat_lit 97,nat_lit 116,nat_lit 99,nat_lit 104]⟩⟩ := rfl
theorem at69 : Str.ofString "cell" = ⟨⟨[nat_lit 99,nat_lit 101,nat_lit 108,nat_lit 108]⟩⟩ := rfl
theorem at70 : Str.ofString "clausemill.grammar" = ⟨⟨[nat_lit 99,nat_lit 108,nat_lit 97,nat_lit 117,nat_lit 115,nat_lit 101,nat_lit 109,nat_lit 105,nat_lit 108,nat_lit 108,nat_lit 46,nat_lit 103,nat_lit 114,nat_lit 97,nat_lit 109,nat_lit 109,nat_lit 97,nat_lit 114]⟩⟩ := rfl
theorem at71 : Str.ofString "clausemill.kernel" = ⟨⟨[nat_lit 99,nat_lit 108,nat_lit 97,nat_lit 117,nat_lit 115,nat_lit 101,nat_lit 109,nat_lit 105,nat_lit 108,nat_lit 108,nat_lit 46,nat_lit 107,nat_lit 101,nat_lit 114,nat_lit 110,nat_lit 101,nat_lit 108]⟩⟩ := rfl
theorem at72 : Str.ofString "clausemill.symbols" = ⟨⟨[nat_lit 99,nat_lit 108,nat_lit 97,nat_lit 117,nat_lit 115,nat_lit 101,nat_lit 109,nat_lit 105,nat_lit 108,nat_lit 108,nat_lit 46,nat_lit 115,nat_lit 121,nat_lit 109,nat_lit 98,nat_lit 111,nat_lit 108,nat_lit 115]⟩⟩ := rfl
theorem at73 : Str.ofString "clausemill.terms" = ⟨⟨[nat_lit 99,nat_lit 108,nat_lit 97,nat_lit 117,nat_lit 115,nat_lit 101,nat_lit 109,nat_lit 105,nat_lit 108,nat_lit 108,nat_lit 46,nat_lit 116,nat_lit 101,nat_lit 114,nat_lit 109,nat_lit 115]⟩⟩ := rfl
theorem at74 : Str.ofString "coins" = ⟨⟨[nat_lit 99,nat_lit 111,nat_lit 105,nat_lit 110,nat_lit 115]⟩⟩ := rfl
theorem at75 : Str.ofString "conjunction" = ⟨⟨[nat_lit 99,nat_lit 111,nat_lit 110,nat_lit 106,nat_lit 117,nat_lit 110,nat_lit 99,nat_lit 116,nat_lit 105,nat_lit 111,nat_lit 110]⟩⟩ := rfl
theorem at76 : Str.ofString "count" = ⟨⟨[nat_lit 99,nat_lit 111,nat_lit 117,nat_lit 110,nat_lit 116]⟩⟩ := rfl
theorem at77 : Str.ofString "culprit" = ⟨⟨[nat_lit 99,nat_lit 117,nat_lit 108,nat_lit 112,nat_lit 114,nat_lit 105,nat_lit 116]⟩⟩ := rfl
theorem at78 : Str.ofString "deep" = ⟨⟨[nat_lit 100,nat_lit 101,nat_lit 101,nat_lit 112]⟩⟩ := rfl
theorem at79 : Str.ofString "done" = ⟨⟨[nat_lit 100,nat_lit 111,nat_lit 110,nat_lit 101]⟩⟩ := rfl
theorem at80 : Str.ofString "due" = ⟨⟨[nat_lit 100,nat_lit 117,nat_lit 101]⟩⟩ := rfl
theorem at81 : Str.ofString "end" = ⟨⟨[nat_lit 101,nat_lit 110,nat_lit 100]⟩⟩ := rfl
theorem at82 : Str.ofString "end_of_file" = ⟨⟨[nat_lit 101,nat_lit 110,nat_lit 100,nat_lit 95,nat_lit 111,nat_lit 102,nat_lit 95,nat_lit 102,nat_lit 105,nat_lit 108,nat_lit 101]⟩⟩ := rfl
theorem at83 : Str.ofString "ending" = ⟨⟨[nat_lit 101,nat_lit 110,nat_lit 100,nat_lit 105,nat_lit 110,nat_lit 103]⟩⟩ := rfl
theorem at84 : Str.ofString "error" = ⟨⟨[nat_lit 101,nat_lit 114,nat_lit 114,nat_lit 111,nat_lit 114]⟩⟩ := rfl
theorem at85 : Str.ofString "extend" = ⟨⟨[nat_lit 101,nat_lit 120,nat_lit 116,nat_lit 101,nat_lit 110,nat_lit 100]⟩⟩ := rfl
theorem at86 : Str.ofString "f" = ⟨⟨[nat_lit 102]⟩⟩ := rfl
theorem at87 : Str.ofString "fail" = ⟨⟨[nat_lit 102,nat_lit 97,nat_lit 105,nat_lit 108]⟩⟩ := rfl
theorem at88 : Str.ofString "false" = ⟨⟨[nat_lit 102,nat_lit 97,nat_lit 108,nat_lit 115,nat_lit 101]⟩⟩ := rfl
theorem at89 : Str.ofString "fast" = ⟨⟨[nat_lit 102,nat_lit 97,nat_lit 115,nat_lit 116]⟩⟩ := rfl
theorem at90 : Str.ofString "fault" = ⟨⟨[nat_lit 102,nat_lit 97,nat_lit 117,nat_lit 108,nat_lit 116]⟩⟩ := rfl
theorem at91 : Str.ofString "first" = ⟨⟨[nat_lit 102,nat_lit 105,nat_lit 114,nat_lit 115,nat_lit 116]⟩⟩ := rfl
theorem at92 : Str.ofString "fixed_atoms" = ⟨⟨[nat_lit 102,nat_lit 105,nat_lit 120,nat_lit 101,nat_lit 100,nat_lit 95,nat_lit 97,nat_lit 116,nat_lit 111,nat_lit 109,nat_lit 115]⟩⟩ := rfl
theorem at93 : Str.ofString "fixed_functors" = ⟨⟨[nat_lit 102,nat_lit 105,nat_lit 120,nat_lit 101,nat_lit 100,nat_lit 95,nat_lit 102,nat_lit 117,nat_lit 110,nat_lit 99,nat_lit 116,nat_lit 111,nat_lit 114,nat_lit 115]⟩⟩ := rfl
theorem at94 : Str.ofString "formal" = ⟨⟨[nat_lit 102,nat_lit 111,nat_lit 114,nat_lit 109,nat_lit 97,nat_lit 108]⟩⟩ := rfl
theorem at95 : Str.ofString "formal_of" = ⟨⟨[nat_lit 102,nat_lit 111,nat_lit 114,nat_lit 109,nat_lit 97,nat_lit 108,nat_lit 95,nat_lit 111,nat_lit 102]⟩⟩ := rfl
theorem at96 : Str.ofString "found" = ⟨⟨[nat_lit 102,nat_lit 111,nat_lit 117,nat_lit 110,nat_lit 100]⟩⟩ := rfl
theorem at97 : Str.ofString "fresh" = ⟨⟨[nat_lit 102,nat_lit 114,nat_lit 101,nat_lit 115,nat_lit 104]⟩⟩ := rfl
theorem at98 : Str.ofString "func" = ⟨⟨[nat_lit 102,nat_lit 117,nat_lit 110,nat_lit 99]⟩⟩ := rfl
theorem at99 : Str.ofString "functor" = ⟨⟨[nat_lit 102,nat_lit 117,nat_lit 110,nat_lit 99,nat_lit 116,nat_lit 111,nat_lit 114]⟩⟩ := rfl
theorem at100 : Str.ofString "functor_count" = ⟨⟨[nat_lit 102,nat_lit 117,nat_lit 110,nat_lit 99,nat_lit 116,nat_lit 111,nat_lit 114,nat_lit 95,nat_lit 99,nat_lit 111,nat_lit 117,nat_lit 110,nat_lit 116]⟩⟩ := rfl
theorem at101 : Str.ofString "functor_in" = ⟨⟨[nat_lit 102,nat_lit 117,nat_lit 110,nat_lit 99,nat_lit 116,nat_lit 111,nat_lit 114,nat_lit 95,nat_lit 105,nat_lit 110]⟩⟩ := rfl
theorem at102 : Str.ofString "functor_numbers" = ⟨⟨[nat_lit 102,nat_lit 117,nat_lit 110,nat_lit 99,nat_lit 116,nat_lit 111,nat_lit 114,nat_lit 95,nat_lit 110,nat_lit 117,nat_lit 109,nat_lit 98,nat_lit 101,nat_lit 114,nat_lit 115]⟩⟩ := rfl
theorem at103 : Str.ofString "functors" = ⟨⟨[nat_lit 102,nat_lit 117,nat_lit 110,nat_lit 99,nat_lit 116,nat_lit 111,nat_lit 114,nat_lit 115]⟩⟩ := rfl
theorem at104 : Str.ofString "get" = ⟨⟨[nat_lit 103,nat_lit 101,nat_lit 116]⟩⟩ := rfl
theorem at105 : Str.ofString "goal" = ⟨⟨[nat_lit 103,nat_lit 111,nat_lit 97,nat_lit 108]⟩⟩ := rfl
theorem at106 : Str.ofString "goals" = ⟨⟨[nat_lit 103,nat_lit 111,nat_lit 97,nat_lit 108,nat_lit 115]⟩⟩ := rfl
theorem at107 : Str.ofString "grammar_body" = ⟨⟨[nat_lit 103,nat_lit 114,nat_lit 97,nat_lit 109,nat_lit 109,nat_lit 97,nat_lit 114,nat_lit 95,nat_lit 98,nat_lit 111,nat_lit 100,nat_lit 121]⟩⟩ := rfl
theorem at108 : Str.ofString "grammar_part" = ⟨⟨[nat_lit 103,nat_lit 114,nat_lit 97,nat_lit 109,nat_lit 109,nat_lit 97,nat_lit 114,nat_lit 95,nat_lit 112,nat_lit 97,nat_lit 114,nat_lit 116]⟩⟩ := rfl
theorem at109 : Str.ofString "head" = ⟨⟨[nat_lit 104,nat_lit 101,nat_lit 97,nat_lit 100]⟩⟩ := rfl
theorem at110 : Str.ofString "heads" = ⟨⟨[nat_lit 104,nat_lit 101,nat_lit 97,nat_lit 100,nat_lit 115]⟩⟩ := rfl
theorem at111 : Str.ofString "held" = ⟨⟨[nat_lit 104,nat_lit 101,nat_lit 108,nat_lit 100]⟩⟩ := rfl
theorem at112 : Str.ofString "here" = ⟨⟨[nat_lit 104,nat_lit 101,nat_lit 114,nat_lit 101]⟩⟩ := rfl
theorem at113 : Str.ofString "hold" = ⟨⟨[nat_lit 104,nat_lit 111,nat_lit 108,nat_lit 100]⟩⟩ := rfl
theorem at114 : Str.ofString "i" = ⟨⟨[nat_lit 105]⟩⟩ := rfl
theorem at115 : Str.ofString "inner" = ⟨⟨[nat_lit 105,nat_lit 110,nat_lit 110,nat_lit 101,nat_lit 114]⟩⟩ := rfl
theorem at116 : Str.ofString "instantiation_error" = ⟨⟨[nat_lit 105,nat_lit 110,nat_lit 115,nat_lit 116,nat_lit 97,nat_lit 110,nat_lit 116,nat_lit 105,nat_lit 97,nat_lit 116,nat_lit 105,nat_lit 111,nat_lit 110,nat_lit 95,nat_lit 101,nat_lit 114,nat_lit 114,nat_lit 111,nat_lit 114]⟩⟩ := rfl
theorem at117 : Str.ofString "is_callable" = ⟨⟨[nat_lit 105,nat_lit 115,nat_lit 95,nat_lit 99,nat_lit 97,nat_lit 108,nat_lit 108,nat_lit 97,nat_lit 98,nat_lit 108,nat_lit 101]⟩⟩ := rfl
theorem at118 : Str.ofString "isinstance" = ⟨⟨[nat_lit 105,nat_lit 115,nat_lit 105,nat_lit 110,nat_lit 115,nat_lit 116,nat_lit 97,nat_lit 110,nat_lit 99,nat_lit 101]⟩⟩ := rfl
theorem at119 : Str.ofString "item" = ⟨⟨[nat_lit 105,nat_lit 116,nat_lit 101,nat_lit 109]⟩⟩ := rfl
theorem at120 : Str.ofString "items" = ⟨⟨[nat_lit 105,nat_lit 116,nat_lit 101,nat_lit 109,nat_lit 115]⟩⟩ := rfl
theorem at121 : Str.ofString "joint" = ⟨⟨[nat_lit 106,nat_lit 111,nat_lit 105,nat_lit 110,nat_lit 116]⟩⟩ := rfl
theorem at122 : Str.ofString "k" = ⟨⟨[nat_lit 107]⟩⟩ := rfl
theorem at123 : Str.ofString "key" = ⟨⟨[nat_lit 107,nat_lit 101,nat_lit 121]⟩⟩ := rfl
theorem at124 : Str.ofString "kind" = ⟨⟨[nat_lit 107,nat_lit 105,nat_lit 110,nat_lit 100]⟩⟩ := rfl
theorem at125 : Str.ofString "known" = ⟨⟨[nat_lit 107,nat_lit 110,nat_lit 111,nat_lit 119,nat_lit 110]⟩⟩ := rfl
theorem at126 : Str.ofString "label" = ⟨⟨[nat_lit 108,nat_lit 97,nat_lit 98,nat_lit 101,nat_lit 108]⟩⟩ := rfl
theorem at127 : Str.ofString "lap" = ⟨⟨[nat_lit 108,nat_lit 97,nat_lit 112]⟩⟩ := rfl
theorem at128 : Str.ofString "last" = ⟨⟨[nat_lit 108,nat_lit 97,nat_lit 115,nat_lit 116]⟩⟩ := rfl
theorem at129 : Str.ofString "law" = ⟨⟨[nat_lit 108,nat_lit 97,nat_lit 119]⟩⟩ := rfl
theorem at130 : Str.ofString "law_rh0082_01" = ⟨⟨[nat_lit 108,nat_lit 97,nat_lit 119,nat_lit 95,nat_lit 114,nat_lit 104,nat_lit 48,nat_lit 48,nat_lit 56,nat_lit 50,nat_lit 95,nat_lit 48,nat_lit 49]⟩⟩ := rfl
theorem at131 : Str.ofString "left" = ⟨⟨[nat_lit 108,nat_lit 101,nat_lit 102,nat_lit 116]⟩⟩ := rfl
theorem at132 : Str.ofString "len" = ⟨⟨[nat_lit 108,nat_lit 101,nat_lit 110]⟩⟩ := rfl
theorem at133 : Str.ofString "list" = ⟨⟨[nat_lit 108,nat_lit 105,nat_lit 115,nat_lit 116]⟩⟩ := rfl
theorem at134 : Str.ofString "list_items" = ⟨⟨[nat_lit 108,nat_lit 105,nat_lit 115,nat_lit 116,nat_lit 95,nat_lit 105,nat_lit 116,nat_lit 101,nat_lit 109,nat_lit 115]⟩⟩ := rfl
theorem at135 : Str.ofString "list_term" = ⟨⟨[nat_lit 108,nat_lit 105,nat_lit 115,nat_lit 116,nat_lit 95,nat_lit 116,nat_lit 101,nat_lit 114,nat_lit 109]⟩⟩ := rfl
theorem at136 : Str.ofString "middle" = ⟨⟨[nat_lit 109,nat_lit 105,nat_lit 100,nat_lit 100,nat_lit 108,nat_lit 101]⟩⟩ := rfl
theorem at137 : Str.ofString "n" = ⟨⟨[nat_lit 110]⟩⟩ := rfl
theorem at138 : Str.ofString "name" = ⟨⟨[nat_lit 110,nat_lit 97,nat_lit 109,nat_lit 101]⟩⟩ := rfl
theorem at139 : Str.ofString "new" = ⟨⟨[nat_lit 110,nat_lit 101,nat_lit 119]⟩⟩ := rfl
theorem at140 : Str.ofString "new_head" = ⟨⟨[nat_lit 110,nat_lit 101,nat_lit 119,nat_lit 95,nat_lit 104,nat_lit 101,nat_lit 97,nat_lit 100]⟩⟩ := rfl
theorem at141 : Str.ofString "next" = ⟨⟨[nat_lit 110,nat_lit 101,nat_lit 120,nat_lit 116]⟩⟩ := rfl
theorem at142 : Str.ofString "nodes" = ⟨⟨[nat_lit 110,nat_lit 111,nat_lit 100,nat_lit 101,nat_lit 115]⟩⟩ := rfl
theorem at143 : Str.ofString "nonterminal" = ⟨⟨[nat_lit 110,nat_lit 111,nat_lit 110,nat_lit 116,nat_lit 101,nat_lit 114,nat_lit 109,nat_lit 105,nat_lit 110,nat_lit 97,nat_lit 108]⟩⟩ := rfl
theorem at144 : Str.ofString "not" = ⟨⟨[nat_lit 110,nat_lit 111,nat_lit 116]⟩⟩ := rfl
theorem at145 : Str.ofString "number" = ⟨⟨[nat_lit 110,nat_lit 117,nat_lit 109,nat_lit 98,nat_lit 101,nat_lit 114]⟩⟩ := rfl
theorem at146 : Str.ofString "or" = ⟨⟨[nat_lit 111,nat_lit 114]⟩⟩ := rfl
theorem at147 : Str.ofString "p" = ⟨⟨[nat_lit 112]⟩⟩ := rfl
theorem at148 : Str.ofString "part" = ⟨⟨[nat_lit 112,nat_lit 97,nat_lit 114,nat_lit 116]⟩⟩ := rfl
theorem at149 : Str.ofString "parts" = ⟨⟨[nat_lit 112,nat_lit 97,nat_lit 114,nat_lit 116,nat_lit 115]⟩⟩ := rfl
theorem at150 : Str.ofString "phrase" = ⟨⟨[nat_lit 112,nat_lit 104,nat_lit 114,nat_lit 97,nat_lit 115,nat_lit 101]⟩⟩ := rfl
theorem at151 : Str.ofString "place" = ⟨⟨[nat_lit 112,nat_lit 108,nat_lit 97,nat_lit 99,nat_lit 101]⟩⟩ := rfl
theorem at152 : Str.ofString "places" = ⟨⟨[nat_lit 112,nat_lit 108,nat_lit 97,nat_lit 99,nat_lit 101,nat_lit 115]⟩⟩ := rfl
theorem at153 : Str.ofString "plain_goal" = ⟨⟨[nat_lit 112,nat_lit 108,nat_lit 97,nat_lit 105,nat_lit 110,nat_lit 95,nat_lit 103,nat_lit 111,nat_lit 97,nat_lit 108]⟩⟩ := rfl
theorem at154 : Str.ofString "pop" = ⟨⟨[nat_lit 112,nat_lit 111,nat_lit 112]⟩⟩ := rfl
theorem at155 : Str.ofString "pushback" = ⟨⟨[nat_lit 112,nat_lit 117,nat_lit 115,nat_lit 104,nat_lit 98,nat_lit 97,nat_lit 99,nat_lit 107]⟩⟩ := rfl
theorem at156 : Str.ofString "pushed" = ⟨⟨[nat_lit 112,nat_lit 117,nat_lit 115,nat_lit 104,nat_lit 101,nat_lit 100]⟩⟩ := rfl
theorem at157 : Str.ofString "range" = ⟨⟨[nat_lit 114,nat_lit 97,nat_lit 110,nat_lit 103,nat_lit 101]⟩⟩ := rfl
theorem at158 : Str.ofString "result" = ⟨⟨[nat_lit 114,nat_lit 101,nat_lit 115,nat_lit 117,nat_lit 108,nat_lit 116]⟩⟩ := rfl
theorem at159 : Str.ofString "reverse" = ⟨⟨[nat_lit 114,nat_lit 101,nat_lit 118,nat_lit 101,nat_lit 114,nat_lit 115,nat_lit 101]⟩⟩ := rfl
theorem at160 : Str.ofString "reversed" = ⟨⟨[nat_lit 114,nat_lit 101,nat_lit 118,nat_lit 101,nat_lit 114,nat_lit 115,nat_lit 101,nat_lit 100]⟩⟩ := rfl
theorem at161 : Str.ofString "right_spine" = ⟨⟨[nat_lit 114,nat_lit 105,nat_lit 103,nat_lit 104,nat_lit 116,nat_lit 95,nat_lit 115,nat_lit 112,nat_lit 105,nat_lit 110,nat_lit 101]⟩⟩ := rfl
theorem at162 : Str.ofString "row" = ⟨⟨[nat_lit 114,nat_lit 111,nat_lit 119]⟩⟩ := rfl
theorem at163 : Str.ofString "rows" = ⟨⟨[nat_lit 114,nat_lit 111,nat_lit 119,nat_lit 115]⟩⟩ := rfl
theorem at164 : Str.ofString "s" = ⟨⟨[nat_lit 115]⟩⟩ := rfl
theorem at165 : Str.ofString "same" = ⟨⟨[nat_lit 115,nat_lit 97,nat_lit 109,nat_lit 101]⟩⟩ := rfl
theorem at166 : Str.ofString "script" = ⟨⟨[nat_lit 115,nat_lit 99,nat_lit 114,nat_lit 105,nat_lit 112,nat_lit 116]⟩⟩ := rfl
theorem at167 : Str.ofString "seen" = ⟨⟨[nat_lit 115,nat_lit 101,nat_lit 101,nat_lit 110]⟩⟩ := rfl
theorem at168 : Str.ofString "self" = ⟨⟨[nat_lit 115,nat_lit 101,nat_lit 108,nat_lit 102]⟩⟩ := rfl
theorem at169 : Str.ofString "sides" = ⟨⟨[nat_lit 115,nat_lit 105,nat_lit 100,nat_lit 101,nat_lit 115]⟩⟩ := rfl
theorem at170 : Str.ofString "signs" = ⟨⟨[nat_lit 115,nat_lit 105,nat_lit 103,nat_lit 110,nat_lit 115]⟩⟩ := rfl
theorem at171 : Str.ofString "spine" = ⟨⟨[nat_lit 115,nat_lit 112,nat_lit 105,nat_lit 110,nat_lit 101]⟩⟩ := rfl
theorem at172 : Str.ofString "str" = ⟨⟨[nat_lit 115,nat_lit 116,nat_lit 114]⟩⟩ := rfl
theorem at173 : Str.ofString "struct" = ⟨⟨[nat_lit 115,nat_lit 116,nat_lit 114,nat_lit 117,nat_lit 99,nat_lit 116]⟩⟩ := rfl
theorem at174 : Str.ofString "symbols" = ⟨⟨[nat_lit 115,nat_lit 121,nat_lit 109,nat_lit 98,nat_lit 111,nat_lit 108,nat_lit 115]⟩⟩ := rfl
theorem at175 : Str.ofString "system" = ⟨⟨[nat_lit 115,nat_lit 121,nat_lit 115,nat_lit 116,nat_lit 101,nat_lit 109]⟩⟩ := rfl
theorem at176 : Str.ofString "system_error" = ⟨⟨[nat_lit 115,nat_lit 121,nat_lit 115,nat_lit 116,nat_lit 101,nat_lit 109,nat_lit 95,nat_lit 101,nat_lit 114,nat_lit 114,nat_lit 111,nat_lit 114]⟩⟩ := rfl
theorem at177 : Str.ofString "tail" = ⟨⟨[nat_lit 116,nat_lit 97,nat_lit 105,nat_lit 108]⟩⟩ := rfl
theorem at178 : Str.ofString "term" = ⟨⟨[nat_lit 116,nat_lit 101,nat_lit 114,nat_lit 109]⟩⟩ := rfl
theorem at179 : Str.ofString "terminals" = ⟨⟨[nat_lit 116,nat_lit 101,nat_lit 114,nat_lit 109,nat_lit 105,nat_lit 110,nat_lit 97,nat_lit 108,nat_lit 115]⟩⟩ := rfl
theorem at180 : Str.ofString "terms" = ⟨⟨[nat_lit 116,nat_lit 101,nat_lit 114,nat_lit 109,nat_lit 115]⟩⟩ := rfl
theorem at181 : Str.ofString "text" = ⟨⟨[nat_lit 116,nat_lit 101,nat_lit 120,nat_lit 116]⟩⟩ := rfl
theorem at182 : Str.ofString "texts" = ⟨⟨[nat_lit 116,nat_lit 101,nat_lit 120,nat_lit 116,nat_lit 115]⟩⟩ := rfl
theorem at183 : Str.ofString "then" = ⟨⟨[nat_lit 116,nat_lit 104,nat_lit 101,nat_lit 110]⟩⟩ := rfl
theorem at184 : Str.ofString "there" = ⟨⟨[nat_lit 116,nat_lit 104,nat_lit 101,nat_lit 114,nat_lit 101]⟩⟩ := rfl
theorem at185 : Str.ofString "throw" = ⟨⟨[nat_lit 116,nat_lit 104,nat_lit 114,nat_lit 111,nat_lit 119]⟩⟩ := rfl
theorem at186 : Str.ofString "todo" = ⟨⟨[nat_lit 116,nat_lit 111,nat_lit 100,nat_lit 111]⟩⟩ := rfl
theorem at187 : Str.ofString "told" = ⟨⟨[nat_lit 116,nat_lit 111,nat_lit 108,nat_lit 100]⟩⟩ := rfl
theorem at188 : Str.ofString "translate_grammar" = ⟨⟨[nat_lit 116,nat_lit 114,nat_lit 97,nat_lit 110,nat_lit 115,nat_lit 108,nat_lit 97,nat_lit 116,nat_lit 101,nat_lit 95,nat_lit 103,nat_lit 114,nat_lit 97,nat_lit 109,nat_lit 109,nat_lit 97,nat_lit 114]⟩⟩ := rfl
theorem at189 : Str.ofString "tree" = ⟨⟨[nat_lit 116,nat_lit 114,nat_lit 101,nat_lit 101]⟩⟩ := rfl
theorem at190 : Str.ofString "true" = ⟨⟨[nat_lit 116,nat_lit 114,nat_lit 117,nat_lit 101]⟩⟩ := rfl
theorem at191 : Str.ofString "tuple" = ⟨⟨[nat_lit 116,nat_lit 117,nat_lit 112,nat_lit 108,nat_lit 101]⟩⟩ := rfl
theorem at192 : Str.ofString "type_error" = ⟨⟨[nat_lit 116,nat_lit 121,nat_lit 112,nat_lit 101,nat_lit 95,nat_lit 101,nat_lit 114,nat_lit 114,nat_lit 111,nat_lit 114]⟩⟩ := rfl
theorem at193 : Str.ofString "used" = ⟨⟨[nat_lit 117,nat_lit 115,nat_lit 101,nat_lit 100]⟩⟩ := rfl
theorem at194 : Str.ofString "v" = ⟨⟨[nat_lit 118]⟩⟩ := rfl
theorem at195 : Str.ofString "var" = ⟨⟨[nat_lit 118,nat_lit 97,nat_lit 114]⟩⟩ := rfl
theorem at196 : Str.ofString "variable" = ⟨⟨[nat_lit 118,nat_lit 97,nat_lit 114,nat_lit 105,nat_lit 97,nat_lit 98,nat_lit 108,nat_lit 101]⟩⟩ := rfl
theorem at197 : Str.ofString "variables" = ⟨⟨[nat_lit 118,nat_lit 97,nat_lit 114,nat_lit 105,nat_lit 97,nat_lit 98,nat_lit 108,nat_lit 101,nat_lit 115]⟩⟩ := rfl
theorem at198 : Str.ofString "variables_of" = ⟨⟨[nat_lit 118,nat_lit 97,nat_lit 114,nat_lit 105,nat_lit 97,nat_lit 98,nat_lit 108,nat_lit 101,nat_lit 115,nat_lit 95,nat_lit 111,nat_lit 102]⟩⟩ := rfl
theorem at199 : Str.ofString "waiting" = ⟨⟨[nat_lit 119,nat_lit 97,nat_lit 105,nat_lit 116,nat_lit 105,nat_lit 110,nat_lit 103]⟩⟩ := rfl
theorem at200 : Str.ofString "way" = ⟨⟨[nat_lit 119,nat_lit 97,nat_lit 121]⟩⟩ := rfl
theorem at201 : Str.ofString "word" = ⟨⟨[nat_lit 119,nat_lit 111,nat_lit 114,nat_lit 100]⟩⟩ := rfl
theorem at202 : Str.ofString "x" = ⟨⟨[nat_lit 120]⟩⟩ := rfl
theorem at203 : Str.ofString "{}" = ⟨⟨[nat_lit 123,nat_lit 125]⟩⟩ := rfl
theorem at204 : Str.ofString "|" = ⟨⟨[nat_lit 124]⟩⟩ := rfl
inductive Bx (p : Program) : Prop | mk
def getP {p : Program} (_ : Bx p) : Program := p
set_option maxHeartbeats 4000000 in
noncomputable abbrev PT : Program := getP (by
  have h : Bx PySem.Challenge.pw_rh0082_01 := ⟨⟩
  delta PySem.Challenge.pw_rh0082_01 at h
  dsimp only [at0,at1,at2,at3,at4,at5,at6,at7,at8,at9,at10,at11,at12,at13,at14,at15,at16,at17,at18,at19,at20,at21,at22,at23,at24,at25,at26,at27,at28,at29,at30,at31,at32,at33,at34,at35,at36,at37,at38,at39,at40,at41,at42,at43,at44,at45,at46,at47,at48,at49,at50,at51,at52,at53,at54,at55,at56,at57,at58,at59,at60,at61,at62,at63,at64,at65,at66,at67,at68,at69,at70,at71,at72,at73,at74,at75,at76,at77,at78,at79,at80,at81,at82,at83,at84,at85,at86,at87,at88,at89,at90,at91,at92,at93,at94,at95,at96,at97,at98,at99,at100,at101,at102,at103,at104,at105,at106,at107,at108,at109,at110,at111,at112,at113,at114,at115,at116,at117,at118,at119,at120,at121,at122,at123,at124,at125,at126,at127,at128,at129,at130,at131,at132,at133,at134,at135,at136,at137,at138,at139,at140,at141,at142,at143,at144,at145,at146,at147,at148,at149,at150,at151,at152,at153,at154,at155,at156,at157,at158,at159,at160,at161,at162,at163,at164,at165,at166,at167,at168,at169,at170,at171,at172,at173,at174,at175,at176,at177,at178,at179,at180,at181,at182,at183,at184,at185,at186,at187,at188,at189,at190,at191,at192,at193,at194,at195,at196,at197,at198,at199,at200,at201,at202,at203,at204] at h
  exact h)
theorem PT_eq : PySem.Challenge.pw_rh0082_01 = PT := rfl
noncomputable abbrev sk (l : List Nat) : Str := ⟨⟨l⟩⟩
noncomputable abbrev z1 : Str := sk [47,99,108,97,105,109,47,99,117,116,46,112,121]
noncomputable abbrev z2 : Str := sk [99,108,97,117,115,101,109,105,108,108,46,115,121,109,98,111,108,115]
noncomputable abbrev z3 : Str := sk [95,95,115,116,97,116,105,99,95,97,116,116,114,105,98,117,116,101,115,95,95]
noncomputable abbrev z4 : Str := sk [67,108,97,117,115,101,109,105,108,108,69,114,114,111,114]
noncomputable abbrev z5 : Str := sk [95,95,102,105,114,115,116,108,105,110,101,110,111,95,95]
noncomputable abbrev z6 : Str := sk [99,108,97,117,115,101,109,105,108,108,46,103,114,97,109,109,97,114]
noncomputable abbrev z7 : Str := sk [102,105,120,101,100,95,102,117,110,99,116,111,114,115]
noncomputable abbrev z8 : Str := sk [95,95,105,110,105,116,95,95]
noncomputable abbrev z9 : Str := sk [105,110,115,116,97,110,116,105,97,116,105,111,110,95,101,114,114,111,114]
noncomputable abbrev z10 : Str := sk [80,114,111,108,111,103,69,114,114,111,114]
noncomputable abbrev z11 : Str := sk [95,95,97,110,110,111,116,97,116,105,111,110,115,95,95]
noncomputable abbrev z12 : Str := sk [99,108,97,117,115,101,109,105,108,108,46,116,101,114,109,115]
noncomputable abbrev z13 : Str := sk [95,95,109,111,100,117,108,101,95,95]
noncomputable abbrev z14 : Str := sk [102,105,120,101,100,95,97,116,111,109,115]
noncomputable abbrev z15 : Str := sk [95,95,98,117,105,108,116,105,110,115,95,95]
noncomputable abbrev z16 : Str := sk [115,121,115,116,101,109,95,101,114,114,111,114]
noncomputable abbrev z17 : Str := sk [95,95,100,111,99,95,95]
noncomputable abbrev z18 : Str := sk [116,114,97,110,115,108,97,116,101,95,103,114,97,109,109,97,114]
noncomputable abbrev z19 : Str := sk [71,114,97,109,109,97,114,86,97,114,105,97,98,108,101,115]
noncomputable abbrev z20 : Str := sk [118,97,114,105,97,98,108,101,115,95,111,102]
noncomputable abbrev z21 : Str := sk [95,95,112,97,99,107,97,103,101,95,95]
noncomputable abbrev z22 : Str := sk [99,111,110,106,117,110,99,116,105,111,110]
noncomputable abbrev z23 : Str := sk [95,95,108,111,97,100,101,114,95,95]
noncomputable abbrev z24 : Str := sk [108,105,115,116,95,105,116,101,109,115]
noncomputable abbrev z25 : Str := sk [105,115,95,99,97,108,108,97,98,108,101]
noncomputable abbrev z26 : Str := sk [102,117,110,99,116,111,114,95,105,110]
noncomputable abbrev z27 : Str := sk [95,95,99,97,99,104,101,100,95,95]
noncomputable abbrev z28 : Str := sk [114,105,103,104,116,95,115,112,105,110,101]
noncomputable abbrev z29 : Str := sk [95,95,119,101,97,107,114,101,102,95,95]
noncomputable abbrev z30 : Str := sk [108,105,115,116,95,116,101,114,109]
noncomputable abbrev z31 : Str := sk [97,114,103,117,109,101,110,116,115]
noncomputable abbrev z32 : Str := sk [116,121,112,101,95,101,114,114,111,114]
noncomputable abbrev z33 : Str := sk [118,97,114,105,97,98,108,101,115]
noncomputable abbrev z34 : Str := sk [95,95,102,105,108,101,95,95]
noncomputable abbrev z35 : Str := sk [83,121,109,98,111,108,115]
noncomputable abbrev z36 : Str := sk [110,111,110,116,101,114,109,105,110,97,108]
noncomputable abbrev z37 : Str := sk [95,95,110,97,109,101,95,95]
noncomputable abbrev z38 : Str := sk [95,95,115,112,101,99,95,95]
noncomputable abbrev z39 : Str := sk [95,95,113,117,97,108,110,97,109,101,95,95]
noncomputable abbrev z40 : Str := sk [102,111,114,109,97,108,95,111,102]
noncomputable abbrev z41 : Str := sk [95,119,97,108,108]
noncomputable abbrev z42 : Str := sk [70,95,71,82,65,77,77,65,82]
noncomputable abbrev z43 : Str := sk [71,114,97,109,109,97,114,84,114,101,101]
noncomputable abbrev z44 : Str := sk [103,114,97,109,109,97,114,95,98,111,100,121]
noncomputable abbrev z45 : Str := sk [103,114,97,109,109,97,114,95,112,97,114,116]
noncomputable abbrev z46 : Str := sk [95,108,97,119,95,108,105,115,116,95,102,97,117,108,116]
noncomputable abbrev z47 : Str := sk [116,101,114,109,105,110,97,108,115]
noncomputable abbrev z48 : Str := sk [95,108,97,119,95,112,97,114,116,95,102,97,117,108,116]
noncomputable abbrev z49 : Str := sk [97,116,111,109]
noncomputable abbrev z50 : Str := sk [65,95,83,89,83,84,69,77]
noncomputable abbrev z51 : Str := sk [115,116,114,117,99,116]
noncomputable abbrev z52 : Str := sk [108,97,119,95,114,104,48,48,56,50,95,48,49]
noncomputable abbrev z53 : Str := sk [99,108,97,117,115,101,109,105,108,108,46,107,101,114,110,101,108]
noncomputable abbrev z54 : Str := sk [112,108,97,105,110,95,103,111,97,108]
noncomputable abbrev z55 : Str := sk [70,95,67,79,77,77,65]
noncomputable abbrev z56 : Str := sk [70,95,65,82,82,79,87]
noncomputable abbrev z57 : Str := sk [70,95,67,85,82,76,89]
noncomputable abbrev z58 : Str := sk [70,95,69,81,85,65,76]
noncomputable abbrev z59 : Str := sk [70,95,69,82,82,79,82]
noncomputable abbrev z60 : Str := sk [95,95,100,105,99,116,95,95]
noncomputable abbrev z61 : Str := sk [102,117,110,99,116,111,114,95,99,111,117,110,116]
noncomputable def stAt : List Stmt → Nat → Stmt
  | [], _ => .Pass ⟨0, 0, 0, 0⟩
  | s :: _, 0 => s
  | _ :: r, n + 1 => stAt r n
noncomputable def inCls : Stmt → List Stmt
  | .ClassDef _ _ _ b _ _ _ _ _ _ _ => b
  | _ => []
noncomputable def fP : Stmt → Arguments
  | .FunctionDef _ a _ _ _ _ _ _ _ _ => a
  | _ => ⟨[], [], none, [], [], none, []⟩
noncomputable def fB : Stmt → List Stmt
  | .FunctionDef _ _ b _ _ _ _ _ _ _ => b
  | _ => []
noncomputable def fS : Stmt → Scope
  | .FunctionDef _ _ _ _ _ _ s _ _ _ => s
  | _ => ⟨.module, [], false, false, []⟩
noncomputable abbrev T (i : Nat) : Stmt := stAt PT.main.body i
noncomputable abbrev TM (i j : Nat) : Stmt := stAt (inCls (T i)) j
noncomputable abbrev life0 : Life := {}
noncomputable abbrev q0 : Pos := ⟨0, 0, 0, 0⟩
noncomputable abbrev ann0 : Option Value := some (.ref 6)
noncomputable def env0 : Env := { scope := PT.main.scope, locals := mainNs, globals := mainNs, cells := [], code := .ref 13, frame := some 14 }
noncomputable abbrev bE : List Stmt := behindTheImports PT
noncomputable abbrev cE : Code := .body bE env0
noncomputable abbrev S0 (w : World) (os : OsState) : Shared := ⟨PySem.W.boot_heap w.params,⟨[]⟩,PySem.W.boot_drawn,PySem.W.boot_toks,os⟩
noncomputable def o11a (P : Params) : Obj := ⟨(.type "tuple"),none,(.seq ⟨[]⟩ 0),⟨[]⟩⟩
noncomputable def o12a (P : Params) : Obj := ⟨.none,none,(.fields ⟨[]⟩),⟨[]⟩⟩
noncomputable def o13a (P : Params) : Obj := ⟨(.type "code"),none,(.fields ⟨[(.str (sk [60,109,111,100,117,108,101,62]) 182),(.str (sk [60,109,111,100,117,108,101,62]) 183),(.str z1 184),(.int (.ofNat 1) 0),(.int (.ofNat 0) 0),(.int (.ofNat 0) 0),(.int (.ofNat 0) 0),(.int (.ofNat 0) 0),(.ref 11),(.bool false),(.int (.ofNat 181) 0),(.ref 12),.none,.none,.none,.none,(.int (.ofNat 185) 0),(.int (.ofNat 1) 0),(.str z1 186)]⟩),⟨[]⟩⟩
noncomputable def o14a (P : Params) : Obj := ⟨(.type "frame"),none,.plain,⟨[(some (.ref 13)),(some (.ref 3)),(some (.ref 3)),none,(some (.str (sk [95,95,109,97,105,110,95,95]) 164)),none,(some (.ref 0))]⟩⟩
noncomputable def heapA (P : Params) : Heap := ⟨⟨[PySem.W.boot_o_0 P,PySem.W.boot_o_1 P,PySem.W.boot_o_2 P,PySem.W.boot_o_3 P,PySem.W.boot_o_4 P,PySem.W.boot_o_5 P,PySem.W.boot_o_6 P,PySem.W.boot_o_7 P,PySem.W.boot_o_8 P,PySem.W.boot_o_9 P,PySem.W.boot_o_10 P,o11a P,o12a P,o13a P,o14a P]⟩,life0⟩
noncomputable def treeB (P : Params) : BT := (.node (PySem.W.boot_o_0 P) (.node (PySem.W.boot_o_1 P) (.node (PySem.W.boot_o_3 P) (.node (PySem.W.boot_o_7 P) .nil .nil) (.node (o11a P) .nil .nil)) (.node (PySem.W.boot_o_5 P) (.node (PySem.W.boot_o_9 P) .nil .nil) (.node (o13a P) .nil .nil))) (.node (PySem.W.boot_o_2 P) (.node (PySem.W.boot_o_4 P) (.node (PySem.W.boot_o_8 P) .nil .nil) (.node (o12a P) .nil .nil)) (.node (PySem.W.boot_o_6 P) (.node (PySem.W.boot_o_10 P) .nil .nil) (.node (o14a P) .nil .nil))))
noncomputable abbrev SA (w : World) (os : OsState) : Shared := ⟨heapA w.params,⟨[]⟩,PySem.W.boot_drawn,187,os⟩
noncomputable abbrev SB (w : World) (os : OsState) : SharedT := ⟨treeB w.params,15,life0,⟨[]⟩,PySem.W.boot_drawn,187,os⟩
noncomputable def o2_1 (P : Params) : Obj := ⟨.none,none,(.dict ⟨[⟨(PyData.keyHash P (sk [116,121,112,101,46,95,95,115,117,98,99,108,97,115,115,101,115,95,95,46,69,120,99,101,112,116,105,111,110,46,48])),(.str (sk [116,121,112,101,46,95,95,115,117,98,99,108,97,115,115,101,115,95,95,46,69,120,99,101,112,116,105,111,110,46,48]) 212),(.int (.ofNat 31) 0)⟩,⟨(PyData.keyHash P (sk [116,121,112,101,46,95,95,115,117,98,99,108,97,115,115,101,115,95,95,46,69,120,99,101,112,116,105,111,110,46,110])),(.str (sk [116,121,112,101,46,95,95,115,117,98,99,108,97,115,115,101,115,95,95,46,69,120,99,101,112,116,105,111,110,46,110]) 213),(.int (.ofNat 1) 0)⟩]⟩ 2),⟨[]⟩⟩
noncomputable def o3_1 (P : Params) : Obj := ⟨(.type "dict"),none,(.dict ⟨[⟨(PyData.keyHash P z37),(.str z37 165),(.str z2 194)⟩,⟨(PyData.keyHash P z17),(.str z17 166),.none⟩,⟨(PyData.keyHash P z21),(.str z21 167),.none⟩,⟨(PyData.keyHash P z23),(.str z23 168),(.builtin "__main__.__loader__#opaque")⟩,⟨(PyData.keyHash P z38),(.str z38 169),.none⟩,⟨(PyData.keyHash P z11),(.str z11 170),(.ref 6)⟩,⟨(PyData.keyHash P z15),(.str z15 171),(.ref 4)⟩,⟨(PyData.keyHash P z34),(.str z34 173),(.str z1 172)⟩,⟨(PyData.keyHash P z27),(.str z27 174),.none⟩,⟨(PyData.keyHash P z41),(.str z41 193),(.ref 21)⟩,⟨(PyData.keyHash P z4),(.str z4 215),(.ref 31)⟩]⟩ 11),⟨[]⟩⟩
noncomputable def o12_1 (P : Params) : Obj := ⟨.none,none,(.fields ⟨[(.int (.ofNat 1) 0),(.int (.ofNat 0) 0),(.ref 20),(.int (.ofNat 5) 0),(.int (.ofNat 0) 0),(.ref 27)]⟩),⟨[]⟩⟩
noncomputable def o15_1 (P : Params) : Obj := ⟨(.type "tuple"),none,(.seq ⟨[]⟩ 0),⟨[]⟩⟩
noncomputable def o16_1 (P : Params) : Obj := ⟨.none,none,(.fields ⟨[]⟩),⟨[]⟩⟩
noncomputable def o17_1 (P : Params) : Obj := ⟨(.type "tuple"),none,(.seq ⟨[(.str (sk [107]) 190)]⟩ 0),⟨[]⟩⟩
noncomputable def o18_1 (P : Params) : Obj := ⟨(.type "tuple"),none,(.seq ⟨[]⟩ 0),⟨[]⟩⟩
noncomputable def o19_1 (P : Params) : Obj := ⟨.none,none,(.func ⟨z41,z41,fP (T 0),.stmts (fB (T 0)),fS (T 0),0,[],.none,.none,.none,.none,none,.none,.none,0⟩),⟨[]⟩⟩
noncomputable def o20_1 (P : Params) : Obj := ⟨(.type "code"),none,(.fields ⟨[(.str z41 187),(.str z41 188),(.str z1 189),(.int (.ofNat 1) 0),(.int (.ofNat 1) 0),(.int (.ofNat 0) 0),(.int (.ofNat 0) 0),(.int (.ofNat 3) 0),(.ref 15),(.bool true),(.int (.ofNat 181) 0),(.ref 16),.none,(.ref 17),(.ref 18),(.ref 19),(.int (.ofNat 191) 0),(.int (.ofNat 1) 0),(.str z1 192)]⟩),⟨[]⟩⟩
noncomputable def o21_1 (P : Params) : Obj := ⟨(.type "function"),none,(.func ⟨z41,z41,fP (T 0),.stmts (fB (T 0)),fS (T 0),3,[],.none,.none,.none,(.str (sk [95,95,109,97,105,110,95,95]) 164),none,(.ref 20),.none,0⟩),⟨[]⟩⟩
noncomputable def o22_1 (P : Params) : Obj := ⟨(.type "tuple"),none,(.seq ⟨[(.type "Exception")]⟩ 0),⟨[]⟩⟩
noncomputable def o23_1 (P : Params) : Obj := ⟨(.type "builtin_function_or_method"),none,(.fields ⟨[(.builtin "type.__prepare__"),(.type "type")]⟩),⟨[]⟩⟩
noncomputable def o24_1 (P : Params) : Obj := ⟨(.type "dict"),none,(.dict ⟨[⟨(PyData.keyHash P z13),(.str z13 203),(.str z2 194)⟩,⟨(PyData.keyHash P z39),(.str z39 205),(.str z4 204)⟩,⟨(PyData.keyHash P z5),(.str z5 207),(.int (.ofNat 5) 206)⟩,⟨(PyData.keyHash P z3),(.str z3 208),(.ref 29)⟩]⟩ 4),⟨[]⟩⟩
noncomputable def o25_1 (P : Params) : Obj := ⟨(.type "tuple"),none,(.seq ⟨[]⟩ 0),⟨[]⟩⟩
noncomputable def o26_1 (P : Params) : Obj := ⟨.none,none,(.fields ⟨[]⟩),⟨[]⟩⟩
noncomputable def o27_1 (P : Params) : Obj := ⟨(.type "code"),none,(.fields ⟨[(.str z4 198),(.str z4 199),(.str z1 200),(.int (.ofNat 5) 0),(.int (.ofNat 0) 0),(.int (.ofNat 0) 0),(.int (.ofNat 0) 0),(.int (.ofNat 0) 0),(.ref 25),(.bool false),(.int (.ofNat 181) 0),(.ref 26),.none,.none,.none,.none,(.int (.ofNat 201) 0),(.int (.ofNat 5) 0),(.str z1 202)]⟩),⟨[]⟩⟩
noncomputable def o28_1 (P : Params) : Obj := ⟨(.type "frame"),none,.plain,⟨[(some (.ref 27)),(some (.ref 3)),(some (.ref 24)),none,(some (.str z2 194)),none,(some (.ref 0))]⟩⟩
noncomputable def o29_1 (P : Params) : Obj := ⟨(.type "tuple"),none,(.seq ⟨[]⟩ 0),⟨[]⟩⟩
noncomputable def o30_1 (P : Params) : Obj := ⟨(.type "dict"),none,(.dict ⟨[⟨(PyData.keyHash P z13),(.str z13 203),(.str z2 194)⟩,⟨(PyData.keyHash P z5),(.str z5 207),(.int (.ofNat 5) 206)⟩,⟨(PyData.keyHash P z3),(.str z3 208),(.ref 29)⟩,⟨(PyData.keyHash P z29),(.str z29 210),(.ref 32)⟩,⟨(PyData.keyHash P z17),(.str z17 211),.none⟩]⟩ 3),⟨[]⟩⟩
noncomputable def o31_1 (P : Params) : Obj := ⟨(.type "type"),none,(.cls ⟨z4,[(.type "Exception")],[(.ref 31),(.type "Exception"),(.type "BaseException"),(.type "object")],30,z4,true,[],[],false,none,false⟩),⟨[(some (.ref 22)),none,(some (.str z4 196)),(some (.str z4 204)),(some (.builtin "Exception.__new__")),(some (.bool true))]⟩⟩
noncomputable def o32_1 (P : Params) : Obj := ⟨(.type "getset_descriptor"),none,(.fields ⟨[(.str z29 209),(.ref 31),(.builtin "ExceptionGroup.__weakref__"),.none]⟩),⟨[]⟩⟩
noncomputable def o33_1 (P : Params) : Obj := ⟨(.type "super"),none,(.fields ⟨[(.ref 31),(.ref 31),(.ref 31)]⟩),⟨[]⟩⟩
noncomputable def o34_1 (P : Params) : Obj := ⟨(.type "builtin_function_or_method"),none,(.fields ⟨[(.builtin "object.__init_subclass__"),(.ref 31)]⟩),⟨[]⟩⟩
noncomputable def tree1 (P : Params) : BT := (.node (PySem.W.boot_o_0 P) (.node (PySem.W.boot_o_1 P) (.node (o3_1 P) (.node (PySem.W.boot_o_7 P) (.node (o15_1 P) (.node (o31_1 P) .nil .nil) .nil) (.node (o23_1 P) .nil .nil)) (.node (o11a P) (.node (o19_1 P) .nil .nil) (.node (o27_1 P) .nil .nil))) (.node (PySem.W.boot_o_5 P) (.node (PySem.W.boot_o_9 P) (.node (o17_1 P) (.node (o33_1 P) .nil .nil) .nil) (.node (o25_1 P) .nil .nil)) (.node (o13a P) (.node (o21_1 P) .nil .nil) (.node (o29_1 P) .nil .nil)))) (.node (o2_1 P) (.node (PySem.W.boot_o_4 P) (.node (PySem.W.boot_o_8 P) (.node (o16_1 P) (.node (o32_1 P) .nil .nil) .nil) (.node (o24_1 P) .nil .nil)) (.node (o12_1 P) (.node (o20_1 P) .nil .nil) (.node (o28_1 P) .nil .nil))) (.node (PySem.W.boot_o_6 P) (.node (PySem.W.boot_o_10 P) (.node (o18_1 P) (.node (o34_1 P) .nil .nil) .nil) (.node (o26_1 P) .nil .nil)) (.node (o14a P) (.node (o22_1 P) .nil .nil) (.node (o30_1 P) .nil .nil)))))
noncomputable abbrev S1 (w : World) (os : OsState) : SharedT := ⟨tree1 w.params,35,life0,⟨[]⟩,PySem.W.boot_drawn,216,os⟩
noncomputable def sts1 : List Stmt := [T 0,T 1,T 2]
theorem pc1 (w : World) (os : OsState) : segRunT treeTable PT w 11 ann0 1 235 (SB w os) (piecesOf sts1 env0 cE ⟨0, 0, 0, 0⟩ [topFrame q0]) = some (.next, S1 w os, cE, ⟨5, 0, 6, 8⟩) := by
  rw [show @segRunT = _ from PySem.W.Fast.te10110043849684766642, show @treeTable = _ from PySem.W.Fast.te14364793385576792824]
  delta piecesOf
  rw [show @execs = _ from PySem.W.Fast.te12563942051412417395]
  kernel_rfl
noncomputable def o3_2 (P : Params) : Obj := ⟨(.type "dict"),none,(.dict ⟨[⟨(PyData.keyHash P z37),(.str z37 165),(.str z2 194)⟩,⟨(PyData.keyHash P z17),(.str z17 166),.none⟩,⟨(PyData.keyHash P z21),(.str z21 167),.none⟩,⟨(PyData.keyHash P z23),(.str z23 168),(.builtin "__main__.__loader__#opaque")⟩,⟨(PyData.keyHash P z38),(.str z38 169),.none⟩,⟨(PyData.keyHash P z11),(.str z11 170),(.ref 6)⟩,⟨(PyData.keyHash P z15),(.str z15 171),(.ref 4)⟩,⟨(PyData.keyHash P z34),(.str z34 173),(.str z1 172)⟩,⟨(PyData.keyHash P z27),(.str z27 174),.none⟩,⟨(PyData.keyHash P z41),(.str z41 193),(.ref 21)⟩,⟨(PyData.keyHash P z4),(.str z4 215),(.ref 31)⟩,⟨(PyData.keyHash P z10),(.str z10 240),(.ref 51)⟩,⟨(PyData.keyHash P (sk [65,95,78,73,76])),(.str (sk [65,95,78,73,76]) 242),(.int (.ofNat 0) 241)⟩,⟨(PyData.keyHash P (sk [65,95,66,65,82])),(.str (sk [65,95,66,65,82]) 244),(.int (.ofNat 8) 243)⟩,⟨(PyData.keyHash P (sk [65,95,67,85,84])),(.str (sk [65,95,67,85,84]) 246),(.int (.ofNat 15) 245)⟩,⟨(PyData.keyHash P (sk [65,95,84,82,85,69])),(.str (sk [65,95,84,82,85,69]) 248),(.int (.ofNat 16) 247)⟩,⟨(PyData.keyHash P z50),(.str z50 250),(.int (.ofNat 25) 249)⟩,⟨(PyData.keyHash P (sk [70,95,68,79,84])),(.str (sk [70,95,68,79,84]) 252),(.int (.ofNat 0) 251)⟩,⟨(PyData.keyHash P z55),(.str z55 254),(.int (.ofNat 1) 253)⟩,⟨(PyData.keyHash P (sk [70,95,83,69,77,73])),(.str (sk [70,95,83,69,77,73]) 256),(.int (.ofNat 2) 255)⟩,⟨(PyData.keyHash P z56),(.str z56 258),(.int (.ofNat 3) 257)⟩,⟨(PyData.keyHash P (sk [70,95,78,79,84])),(.str (sk [70,95,78,79,84]) 260),(.int (.ofNat 4) 259)⟩,⟨(PyData.keyHash P (sk [70,95,78,69,67,75])),(.str (sk [70,95,78,69,67,75]) 262),(.int (.ofNat 5) 261)⟩,⟨(PyData.keyHash P z42),(.str z42 264),(.int (.ofNat 8) 263)⟩,⟨(PyData.keyHash P z57),(.str z57 266),(.int (.ofNat 9) 265)⟩,⟨(PyData.keyHash P z58),(.str z58 268),(.int (.ofNat 10) 267)⟩,⟨(PyData.keyHash P z59),(.str z59 270),(.int (.ofNat 16) 269)⟩]⟩ 27),⟨[]⟩⟩
noncomputable def o12_2 (P : Params) : Obj := ⟨.none,none,(.fields ⟨[(.int (.ofNat 1) 0),(.int (.ofNat 0) 0),(.ref 20),(.int (.ofNat 5) 0),(.int (.ofNat 0) 0),(.ref 27),(.int (.ofNat 7) 0),(.int (.ofNat 0) 0),(.ref 40)]⟩),⟨[]⟩⟩
noncomputable def o31_2 (P : Params) : Obj := ⟨(.type "type"),none,(.cls ⟨z4,[(.type "Exception")],[(.ref 31),(.type "Exception"),(.type "BaseException"),(.type "object")],30,z4,true,[],[(.ref 51)],false,none,false⟩),⟨[(some (.ref 22)),none,(some (.str z4 196)),(some (.str z4 204)),(some (.builtin "Exception.__new__")),(some (.bool true))]⟩⟩
noncomputable def o35_2 (P : Params) : Obj := ⟨(.type "tuple"),none,(.seq ⟨[(.ref 31)]⟩ 0),⟨[]⟩⟩
noncomputable def o36_2 (P : Params) : Obj := ⟨(.type "builtin_function_or_method"),none,(.fields ⟨[(.builtin "type.__prepare__"),(.type "type")]⟩),⟨[]⟩⟩
noncomputable def o37_2 (P : Params) : Obj := ⟨(.type "dict"),none,(.dict ⟨[⟨(PyData.keyHash P z13),(.str z13 223),(.str z2 194)⟩,⟨(PyData.keyHash P z39),(.str z39 225),(.str z10 224)⟩,⟨(PyData.keyHash P z5),(.str z5 227),(.int (.ofNat 7) 226)⟩,⟨(PyData.keyHash P z8),(.str z8 235),(.ref 48)⟩,⟨(PyData.keyHash P z3),(.str z3 237),(.ref 49)⟩]⟩ 5),⟨[]⟩⟩
noncomputable def o38_2 (P : Params) : Obj := ⟨(.type "tuple"),none,(.seq ⟨[]⟩ 0),⟨[]⟩⟩
noncomputable def o39_2 (P : Params) : Obj := ⟨.none,none,(.fields ⟨[(.int (.ofNat 9) 0),(.int (.ofNat 4) 0),(.ref 47)]⟩),⟨[]⟩⟩
noncomputable def o40_2 (P : Params) : Obj := ⟨(.type "code"),none,(.fields ⟨[(.str z10 218),(.str z10 219),(.str z1 220),(.int (.ofNat 7) 0),(.int (.ofNat 0) 0),(.int (.ofNat 0) 0),(.int (.ofNat 0) 0),(.int (.ofNat 0) 0),(.ref 38),(.bool false),(.int (.ofNat 181) 0),(.ref 39),.none,.none,.none,.none,(.int (.ofNat 221) 0),(.int (.ofNat 7) 0),(.str z1 222)]⟩),⟨[]⟩⟩
noncomputable def o41_2 (P : Params) : Obj := ⟨(.type "frame"),none,.plain,⟨[(some (.ref 40)),(some (.ref 3)),(some (.ref 37)),none,(some (.str z2 194)),none,(some (.ref 0))]⟩⟩
noncomputable def o42_2 (P : Params) : Obj := ⟨(.type "tuple"),none,(.seq ⟨[]⟩ 0),⟨[]⟩⟩
noncomputable def o43_2 (P : Params) : Obj := ⟨.none,none,(.fields ⟨[]⟩),⟨[]⟩⟩
noncomputable def o44_2 (P : Params) : Obj := ⟨(.type "tuple"),none,(.seq ⟨[(.str (sk [115,101,108,102]) 231),(.str (sk [98,97,108,108]) 232)]⟩ 0),⟨[]⟩⟩
noncomputable def o45_2 (P : Params) : Obj := ⟨(.type "tuple"),none,(.seq ⟨[]⟩ 0),⟨[]⟩⟩
noncomputable def o46_2 (P : Params) : Obj := ⟨.none,none,(.func ⟨z8,(sk [80,114,111,108,111,103,69,114,114,111,114,46,95,95,105,110,105,116,95,95]),fP (TM 3 0),.stmts (fB (TM 3 0)),fS (TM 3 0),0,[],.none,.none,.none,.none,none,.none,.none,0⟩),⟨[]⟩⟩
noncomputable def o47_2 (P : Params) : Obj := ⟨(.type "code"),none,(.fields ⟨[(.str z8 228),(.str (sk [80,114,111,108,111,103,69,114,114,111,114,46,95,95,105,110,105,116,95,95]) 229),(.str z1 230),(.int (.ofNat 9) 0),(.int (.ofNat 2) 0),(.int (.ofNat 0) 0),(.int (.ofNat 0) 0),(.int (.ofNat 3) 0),(.ref 42),(.bool true),(.int (.ofNat 181) 0),(.ref 43),.none,(.ref 44),(.ref 45),(.ref 46),(.int (.ofNat 233) 0),(.int (.ofNat 9) 0),(.str z1 234)]⟩),⟨[]⟩⟩
noncomputable def o48_2 (P : Params) : Obj := ⟨(.type "function"),none,(.func ⟨z8,(sk [80,114,111,108,111,103,69,114,114,111,114,46,95,95,105,110,105,116,95,95]),fP (TM 3 0),.stmts (fB (TM 3 0)),fS (TM 3 0),3,[],.none,.none,.none,(.str z2 194),none,(.ref 47),.none,0⟩),⟨[]⟩⟩
noncomputable def o49_2 (P : Params) : Obj := ⟨(.type "tuple"),none,(.seq ⟨[(.str (sk [98,97,108,108]) 236)]⟩ 0),⟨[]⟩⟩
noncomputable def o50_2 (P : Params) : Obj := ⟨(.type "dict"),none,(.dict ⟨[⟨(PyData.keyHash P z13),(.str z13 223),(.str z2 194)⟩,⟨(PyData.keyHash P z5),(.str z5 227),(.int (.ofNat 7) 226)⟩,⟨(PyData.keyHash P z8),(.str z8 235),(.ref 48)⟩,⟨(PyData.keyHash P z3),(.str z3 237),(.ref 49)⟩,⟨(PyData.keyHash P z17),(.str z17 238),.none⟩]⟩ 2),⟨[]⟩⟩
noncomputable def o51_2 (P : Params) : Obj := ⟨(.type "type"),none,(.cls ⟨z10,[(.ref 31)],[(.ref 51),(.ref 31),(.type "Exception"),(.type "BaseException"),(.type "object")],50,z10,true,[],[],false,none,false⟩),⟨[(some (.ref 35)),none,(some (.str z10 216)),(some (.str z10 224)),(some (.builtin "Exception.__new__")),(some (.bool true))]⟩⟩
noncomputable def o52_2 (P : Params) : Obj := ⟨(.type "super"),none,(.fields ⟨[(.ref 51),(.ref 51),(.ref 51)]⟩),⟨[]⟩⟩
noncomputable def o53_2 (P : Params) : Obj := ⟨(.type "builtin_function_or_method"),none,(.fields ⟨[(.builtin "object.__init_subclass__"),(.ref 51)]⟩),⟨[]⟩⟩
noncomputable def tree2 (P : Params) : BT := (.node (PySem.W.boot_o_0 P) (.node (PySem.W.boot_o_1 P) (.node (o3_2 P) (.node (PySem.W.boot_o_7 P) (.node (o15_1 P) (.node (o31_2 P) .nil .nil) (.node (o47_2 P) .nil .nil)) (.node (o23_1 P) (.node (o39_2 P) .nil .nil) .nil)) (.node (o11a P) (.node (o19_1 P) (.node (o35_2 P) .nil .nil) (.node (o51_2 P) .nil .nil)) (.node (o27_1 P) (.node (o43_2 P) .nil .nil) .nil))) (.node (PySem.W.boot_o_5 P) (.node (PySem.W.boot_o_9 P) (.node (o17_1 P) (.node (o33_1 P) .nil .nil) (.node (o49_2 P) .nil .nil)) (.node (o25_1 P) (.node (o41_2 P) .nil .nil) .nil)) (.node (o13a P) (.node (o21_1 P) (.node (o37_2 P) .nil .nil) (.node (o53_2 P) .nil .nil)) (.node (o29_1 P) (.node (o45_2 P) .nil .nil) .nil)))) (.node (o2_1 P) (.node (PySem.W.boot_o_4 P) (.node (PySem.W.boot_o_8 P) (.node (o16_1 P) (.node (o32_1 P) .nil .nil) (.node (o48_2 P) .nil .nil)) (.node (o24_1 P) (.node (o40_2 P) .nil .nil) .nil)) (.node (o12_2 P) (.node (o20_1 P) (.node (o36_2 P) .nil .nil) (.node (o52_2 P) .nil .nil)) (.node (o28_1 P) (.node (o44_2 P) .nil .nil) .nil))) (.node (PySem.W.boot_o_6 P) (.node (PySem.W.boot_o_10 P) (.node (o18_1 P) (.node (o34_1 P) .nil .nil) (.node (o50_2 P) .nil .nil)) (.node (o26_1 P) (.node (o42_2 P) .nil .nil) .nil)) (.node (o14a P) (.node (o22_1 P) (.node (o38_2 P) .nil .nil) .nil) (.node (o30_1 P) (.node (o46_2 P) .nil .nil) .nil)))))
noncomputable abbrev S2 (w : World) (os : OsState) : SharedT := ⟨tree2 w.params,54,life0,⟨[]⟩,PySem.W.boot_drawn,271,os⟩
noncomputable def sts2 : List Stmt := [T 3,T 4,T 5,T 6,T 7,T 8,T 9,T 10,T 11,T 12,T 13,T 14,T 15,T 16,T 17,T 18]
theorem pc2 (w : World) (os : OsState) : segRunT treeTable PT w 11 ann0 1 381 (S1 w os) (piecesOf sts2 env0 cE ⟨5, 0, 6, 8⟩ [topFrame q0]) = some (.next, S2 w os, cE, ⟨25, 0, 25, 7⟩) := by
  rw [show @segRunT = _ from PySem.W.Fast.te10110043849684766642, show @treeTable = _ from PySem.W.Fast.te14364793385576792824]
  delta piecesOf
  rw [show @execs = _ from PySem.W.Fast.te12563942051412417395]
  kernel_rfl
noncomputable def o3_3 (P : Params) : Obj := ⟨(.type "dict"),none,(.dict ⟨[⟨(PyData.keyHash P z37),(.str z37 165),(.str z2 194)⟩,⟨(PyData.keyHash P z17),(.str z17 166),.none⟩,⟨(PyData.keyHash P z21),(.str z21 167),.none⟩,⟨(PyData.keyHash P z23),(.str z23 168),(.builtin "__main__.__loader__#opaque")⟩,⟨(PyData.keyHash P z38),(.str z38 169),.none⟩,⟨(PyData.keyHash P z11),(.str z11 170),(.ref 6)⟩,⟨(PyData.keyHash P z15),(.str z15 171),(.ref 4)⟩,⟨(PyData.keyHash P z34),(.str z34 173),(.str z1 172)⟩,⟨(PyData.keyHash P z27),(.str z27 174),.none⟩,⟨(PyData.keyHash P z41),(.str z41 193),(.ref 21)⟩,⟨(PyData.keyHash P z4),(.str z4 215),(.ref 31)⟩,⟨(PyData.keyHash P z10),(.str z10 240),(.ref 51)⟩,⟨(PyData.keyHash P (sk [65,95,78,73,76])),(.str (sk [65,95,78,73,76]) 242),(.int (.ofNat 0) 241)⟩,⟨(PyData.keyHash P (sk [65,95,66,65,82])),(.str (sk [65,95,66,65,82]) 244),(.int (.ofNat 8) 243)⟩,⟨(PyData.keyHash P (sk [65,95,67,85,84])),(.str (sk [65,95,67,85,84]) 246),(.int (.ofNat 15) 245)⟩,⟨(PyData.keyHash P (sk [65,95,84,82,85,69])),(.str (sk [65,95,84,82,85,69]) 248),(.int (.ofNat 16) 247)⟩,⟨(PyData.keyHash P z50),(.str z50 250),(.int (.ofNat 25) 249)⟩,⟨(PyData.keyHash P (sk [70,95,68,79,84])),(.str (sk [70,95,68,79,84]) 252),(.int (.ofNat 0) 251)⟩,⟨(PyData.keyHash P z55),(.str z55 254),(.int (.ofNat 1) 253)⟩,⟨(PyData.keyHash P (sk [70,95,83,69,77,73])),(.str (sk [70,95,83,69,77,73]) 256),(.int (.ofNat 2) 255)⟩,⟨(PyData.keyHash P z56),(.str z56 258),(.int (.ofNat 3) 257)⟩,⟨(PyData.keyHash P (sk [70,95,78,79,84])),(.str (sk [70,95,78,79,84]) 260),(.int (.ofNat 4) 259)⟩,⟨(PyData.keyHash P (sk [70,95,78,69,67,75])),(.str (sk [70,95,78,69,67,75]) 262),(.int (.ofNat 5) 261)⟩,⟨(PyData.keyHash P z42),(.str z42 264),(.int (.ofNat 8) 263)⟩,⟨(PyData.keyHash P z57),(.str z57 266),(.int (.ofNat 9) 265)⟩,⟨(PyData.keyHash P z58),(.str z58 268),(.int (.ofNat 10) 267)⟩,⟨(PyData.keyHash P z59),(.str z59 270),(.int (.ofNat 16) 269)⟩,⟨(PyData.keyHash P z14),(.str z14 276),(.ref 60)⟩,⟨(PyData.keyHash P z7),(.str z7 282),(.ref 67)⟩]⟩ 29),⟨[]⟩⟩
noncomputable def o12_3 (P : Params) : Obj := ⟨.none,none,(.fields ⟨[(.int (.ofNat 1) 0),(.int (.ofNat 0) 0),(.ref 20),(.int (.ofNat 5) 0),(.int (.ofNat 0) 0),(.ref 27),(.int (.ofNat 7) 0),(.int (.ofNat 0) 0),(.ref 40),(.int (.ofNat 26) 0),(.int (.ofNat 0) 0),(.ref 59),(.int (.ofNat 28) 0),(.int (.ofNat 0) 0),(.ref 66)]⟩),⟨[]⟩⟩
noncomputable def o54_3 (P : Params) : Obj := ⟨(.type "tuple"),none,(.seq ⟨[]⟩ 0),⟨[]⟩⟩
noncomputable def o55_3 (P : Params) : Obj := ⟨.none,none,(.fields ⟨[]⟩),⟨[]⟩⟩
noncomputable def o56_3 (P : Params) : Obj := ⟨(.type "tuple"),none,(.seq ⟨[]⟩ 0),⟨[]⟩⟩
noncomputable def o57_3 (P : Params) : Obj := ⟨(.type "tuple"),none,(.seq ⟨[]⟩ 0),⟨[]⟩⟩
noncomputable def o58_3 (P : Params) : Obj := ⟨.none,none,(.func ⟨z14,z14,fP (T 19),.stmts (fB (T 19)),fS (T 19),0,[],.none,.none,.none,.none,none,.none,.none,0⟩),⟨[]⟩⟩
noncomputable def o59_3 (P : Params) : Obj := ⟨(.type "code"),none,(.fields ⟨[(.str z14 271),(.str z14 272),(.str z1 273),(.int (.ofNat 26) 0),(.int (.ofNat 0) 0),(.int (.ofNat 0) 0),(.int (.ofNat 0) 0),(.int (.ofNat 3) 0),(.ref 54),(.bool true),(.int (.ofNat 181) 0),(.ref 55),.none,(.ref 56),(.ref 57),(.ref 58),(.int (.ofNat 274) 0),(.int (.ofNat 26) 0),(.str z1 275)]⟩),⟨[]⟩⟩
noncomputable def o60_3 (P : Params) : Obj := ⟨(.type "function"),none,(.func ⟨z14,z14,fP (T 19),.stmts (fB (T 19)),fS (T 19),3,[],.none,.none,.none,(.str z2 194),none,(.ref 59),.none,0⟩),⟨[]⟩⟩
noncomputable def o61_3 (P : Params) : Obj := ⟨(.type "tuple"),none,(.seq ⟨[]⟩ 0),⟨[]⟩⟩
noncomputable def o62_3 (P : Params) : Obj := ⟨.none,none,(.fields ⟨[]⟩),⟨[]⟩⟩
noncomputable def o63_3 (P : Params) : Obj := ⟨(.type "tuple"),none,(.seq ⟨[]⟩ 0),⟨[]⟩⟩
noncomputable def o64_3 (P : Params) : Obj := ⟨(.type "tuple"),none,(.seq ⟨[]⟩ 0),⟨[]⟩⟩
noncomputable def o65_3 (P : Params) : Obj := ⟨.none,none,(.func ⟨z7,z7,fP (T 20),.stmts (fB (T 20)),fS (T 20),0,[],.none,.none,.none,.none,none,.none,.none,0⟩),⟨[]⟩⟩
noncomputable def o66_3 (P : Params) : Obj := ⟨(.type "code"),none,(.fields ⟨[(.str z7 277),(.str z7 278),(.str z1 279),(.int (.ofNat 28) 0),(.int (.ofNat 0) 0),(.int (.ofNat 0) 0),(.int (.ofNat 0) 0),(.int (.ofNat 3) 0),(.ref 61),(.bool true),(.int (.ofNat 181) 0),(.ref 62),.none,(.ref 63),(.ref 64),(.ref 65),(.int (.ofNat 280) 0),(.int (.ofNat 28) 0),(.str z1 281)]⟩),⟨[]⟩⟩
noncomputable def o67_3 (P : Params) : Obj := ⟨(.type "function"),none,(.func ⟨z7,z7,fP (T 20),.stmts (fB (T 20)),fS (T 20),3,[],.none,.none,.none,(.str z2 194),none,(.ref 66),.none,0⟩),⟨[]⟩⟩
noncomputable def tree3 (P : Params) : BT := (.node (PySem.W.boot_o_0 P) (.node (PySem.W.boot_o_1 P) (.node (o3_3 P) (.node (PySem.W.boot_o_7 P) (.node (o15_1 P) (.node (o31_2 P) (.node (o63_3 P) .nil .nil) .nil) (.node (o47_2 P) .nil .nil)) (.node (o23_1 P) (.node (o39_2 P) .nil .nil) (.node (o55_3 P) .nil .nil))) (.node (o11a P) (.node (o19_1 P) (.node (o35_2 P) (.node (o67_3 P) .nil .nil) .nil) (.node (o51_2 P) .nil .nil)) (.node (o27_1 P) (.node (o43_2 P) .nil .nil) (.node (o59_3 P) .nil .nil)))) (.node (PySem.W.boot_o_5 P) (.node (PySem.W.boot_o_9 P) (.node (o17_1 P) (.node (o33_1 P) (.node (o65_3 P) .nil .nil) .nil) (.node (o49_2 P) .nil .nil)) (.node (o25_1 P) (.node (o41_2 P) .nil .nil) (.node (o57_3 P) .nil .nil))) (.node (o13a P) (.node (o21_1 P) (.node (o37_2 P) .nil .nil) (.node (o53_2 P) .nil .nil)) (.node (o29_1 P) (.node (o45_2 P) .nil .nil) (.node (o61_3 P) .nil .nil))))) (.node (o2_1 P) (.node (PySem.W.boot_o_4 P) (.node (PySem.W.boot_o_8 P) (.node (o16_1 P) (.node (o32_1 P) (.node (o64_3 P) .nil .nil) .nil) (.node (o48_2 P) .nil .nil)) (.node (o24_1 P) (.node (o40_2 P) .nil .nil) (.node (o56_3 P) .nil .nil))) (.node (o12_3 P) (.node (o20_1 P) (.node (o36_2 P) .nil .nil) (.node (o52_2 P) .nil .nil)) (.node (o28_1 P) (.node (o44_2 P) .nil .nil) (.node (o60_3 P) .nil .nil)))) (.node (PySem.W.boot_o_6 P) (.node (PySem.W.boot_o_10 P) (.node (o18_1 P) (.node (o34_1 P) (.node (o66_3 P) .nil .nil) .nil) (.node (o50_2 P) .nil .nil)) (.node (o26_1 P) (.node (o42_2 P) .nil .nil) (.node (o58_3 P) .nil .nil))) (.node (o14a P) (.node (o22_1 P) (.node (o38_2 P) .nil .nil) (.node (o54_3 P) .nil .nil)) (.node (o30_1 P) (.node (o46_2 P) .nil .nil) (.node (o62_3 P) .nil .nil))))))
noncomputable abbrev S3 (w : World) (os : OsState) : SharedT := ⟨tree3 w.params,68,life0,⟨[]⟩,PySem.W.boot_drawn,283,os⟩
noncomputable def sts3 : List Stmt := [T 19,T 20]
theorem pc3 (w : World) (os : OsState) : segRunT treeTable PT w 11 ann0 1 57 (S2 w os) (piecesOf sts3 env0 cE ⟨25, 0, 25, 7⟩ [topFrame q0]) = some (.next, S3 w os, cE, ⟨28, 0, 29, 389⟩) := by
  rw [show @segRunT = _ from PySem.W.Fast.te10110043849684766642, show @treeTable = _ from PySem.W.Fast.te14364793385576792824]
  delta piecesOf
  rw [show @execs = _ from PySem.W.Fast.te12563942051412417395]
  kernel_rfl
noncomputable def o3_4 (P : Params) : Obj := ⟨(.type "dict"),none,(.dict ⟨[⟨(PyData.keyHash P z37),(.str z37 165),(.str z2 194)⟩,⟨(PyData.keyHash P z17),(.str z17 166),.none⟩,⟨(PyData.keyHash P z21),(.str z21 167),.none⟩,⟨(PyData.keyHash P z23),(.str z23 168),(.builtin "__main__.__loader__#opaque")⟩,⟨(PyData.keyHash P z38),(.str z38 169),.none⟩,⟨(PyData.keyHash P z11),(.str z11 170),(.ref 6)⟩,⟨(PyData.keyHash P z15),(.str z15 171),(.ref 4)⟩,⟨(PyData.keyHash P z34),(.str z34 173),(.str z1 172)⟩,⟨(PyData.keyHash P z27),(.str z27 174),.none⟩,⟨(PyData.keyHash P z41),(.str z41 193),(.ref 21)⟩,⟨(PyData.keyHash P z4),(.str z4 215),(.ref 31)⟩,⟨(PyData.keyHash P z10),(.str z10 240),(.ref 51)⟩,⟨(PyData.keyHash P (sk [65,95,78,73,76])),(.str (sk [65,95,78,73,76]) 242),(.int (.ofNat 0) 241)⟩,⟨(PyData.keyHash P (sk [65,95,66,65,82])),(.str (sk [65,95,66,65,82]) 244),(.int (.ofNat 8) 243)⟩,⟨(PyData.keyHash P (sk [65,95,67,85,84])),(.str (sk [65,95,67,85,84]) 246),(.int (.ofNat 15) 245)⟩,⟨(PyData.keyHash P (sk [65,95,84,82,85,69])),(.str (sk [65,95,84,82,85,69]) 248),(.int (.ofNat 16) 247)⟩,⟨(PyData.keyHash P z50),(.str z50 250),(.int (.ofNat 25) 249)⟩,⟨(PyData.keyHash P (sk [70,95,68,79,84])),(.str (sk [70,95,68,79,84]) 252),(.int (.ofNat 0) 251)⟩,⟨(PyData.keyHash P z55),(.str z55 254),(.int (.ofNat 1) 253)⟩,⟨(PyData.keyHash P (sk [70,95,83,69,77,73])),(.str (sk [70,95,83,69,77,73]) 256),(.int (.ofNat 2) 255)⟩,⟨(PyData.keyHash P z56),(.str z56 258),(.int (.ofNat 3) 257)⟩,⟨(PyData.keyHash P (sk [70,95,78,79,84])),(.str (sk [70,95,78,79,84]) 260),(.int (.ofNat 4) 259)⟩,⟨(PyData.keyHash P (sk [70,95,78,69,67,75])),(.str (sk [70,95,78,69,67,75]) 262),(.int (.ofNat 5) 261)⟩,⟨(PyData.keyHash P z42),(.str z42 264),(.int (.ofNat 8) 263)⟩,⟨(PyData.keyHash P z57),(.str z57 266),(.int (.ofNat 9) 265)⟩,⟨(PyData.keyHash P z58),(.str z58 268),(.int (.ofNat 10) 267)⟩,⟨(PyData.keyHash P z59),(.str z59 270),(.int (.ofNat 16) 269)⟩,⟨(PyData.keyHash P z14),(.str z14 276),(.ref 60)⟩,⟨(PyData.keyHash P z7),(.str z7 282),(.ref 67)⟩,⟨(PyData.keyHash P z35),(.str z35 401),(.ref 154)⟩]⟩ 30),⟨[]⟩⟩
noncomputable def o12_4 (P : Params) : Obj := ⟨.none,none,(.fields ⟨[(.int (.ofNat 1) 0),(.int (.ofNat 0) 0),(.ref 20),(.int (.ofNat 5) 0),(.int (.ofNat 0) 0),(.ref 27),(.int (.ofNat 7) 0),(.int (.ofNat 0) 0),(.ref 40),(.int (.ofNat 26) 0),(.int (.ofNat 0) 0),(.ref 59),(.int (.ofNat 28) 0),(.int (.ofNat 0) 0),(.ref 66),(.int (.ofNat 30) 0),(.int (.ofNat 0) 0),(.ref 73)]⟩),⟨[]⟩⟩
noncomputable def o68_4 (P : Params) : Obj := ⟨(.type "tuple"),none,(.seq ⟨[]⟩ 0),⟨[]⟩⟩
noncomputable def o69_4 (P : Params) : Obj := ⟨(.type "builtin_function_or_method"),none,(.fields ⟨[(.builtin "type.__prepare__"),(.type "type")]⟩),⟨[]⟩⟩
noncomputable def o70_4 (P : Params) : Obj := ⟨(.type "dict"),none,(.dict ⟨[⟨(PyData.keyHash P z13),(.str z13 290),(.str z2 194)⟩,⟨(PyData.keyHash P z39),(.str z39 292),(.str z35 291)⟩,⟨(PyData.keyHash P z5),(.str z5 294),(.int (.ofNat 30) 293)⟩,⟨(PyData.keyHash P z8),(.str z8 303),(.ref 81)⟩,⟨(PyData.keyHash P z49),(.str z49 313),(.ref 88)⟩,⟨(PyData.keyHash P (sk [116,101,120,116])),(.str (sk [116,101,120,116]) 321),(.ref 95)⟩,⟨(PyData.keyHash P (sk [102,117,110,99,116,111,114])),(.str (sk [102,117,110,99,116,111,114]) 333),(.ref 102)⟩,⟨(PyData.keyHash P (sk [102,117,110,99])),(.str (sk [102,117,110,99]) 342),(.ref 109)⟩,⟨(PyData.keyHash P (sk [110,97,109,101])),(.str (sk [110,97,109,101]) 350),(.ref 116)⟩,⟨(PyData.keyHash P (sk [97,114,105,116,121])),(.str (sk [97,114,105,116,121]) 358),(.ref 123)⟩,⟨(PyData.keyHash P (sk [108,97,98,101,108])),(.str (sk [108,97,98,101,108]) 366),(.ref 130)⟩,⟨(PyData.keyHash P (sk [99,111,117,110,116])),(.str (sk [99,111,117,110,116]) 373),(.ref 137)⟩,⟨(PyData.keyHash P z61),(.str z61 380),(.ref 144)⟩,⟨(PyData.keyHash P (sk [107,110,111,119,110])),(.str (sk [107,110,111,119,110]) 389),(.ref 151)⟩,⟨(PyData.keyHash P z3),(.str z3 394),(.ref 152)⟩]⟩ 15),⟨[]⟩⟩
noncomputable def o71_4 (P : Params) : Obj := ⟨(.type "tuple"),none,(.seq ⟨[]⟩ 0),⟨[]⟩⟩
noncomputable def o72_4 (P : Params) : Obj := ⟨.none,none,(.fields ⟨[(.int (.ofNat 32) 0),(.int (.ofNat 4) 0),(.ref 80),(.int (.ofNat 42) 0),(.int (.ofNat 4) 0),(.ref 87),(.int (.ofNat 51) 0),(.int (.ofNat 4) 0),(.ref 94),(.int (.ofNat 54) 0),(.int (.ofNat 4) 0),(.ref 101),(.int (.ofNat 64) 0),(.int (.ofNat 4) 0),(.ref 108),(.int (.ofNat 67) 0),(.int (.ofNat 4) 0),(.ref 115),(.int (.ofNat 70) 0),(.int (.ofNat 4) 0),(.ref 122),(.int (.ofNat 73) 0),(.int (.ofNat 4) 0),(.ref 129),(.int (.ofNat 76) 0),(.int (.ofNat 4) 0),(.ref 136),(.int (.ofNat 79) 0),(.int (.ofNat 4) 0),(.ref 143),(.int (.ofNat 82) 0),(.int (.ofNat 4) 0),(.ref 150)]⟩),⟨[]⟩⟩
noncomputable def o73_4 (P : Params) : Obj := ⟨(.type "code"),none,(.fields ⟨[(.str z35 285),(.str z35 286),(.str z1 287),(.int (.ofNat 30) 0),(.int (.ofNat 0) 0),(.int (.ofNat 0) 0),(.int (.ofNat 0) 0),(.int (.ofNat 0) 0),(.ref 71),(.bool false),(.int (.ofNat 181) 0),(.ref 72),.none,.none,.none,.none,(.int (.ofNat 288) 0),(.int (.ofNat 30) 0),(.str z1 289)]⟩),⟨[]⟩⟩
noncomputable def o74_4 (P : Params) : Obj := ⟨(.type "frame"),none,.plain,⟨[(some (.ref 73)),(some (.ref 3)),(some (.ref 70)),none,(some (.str z2 194)),none,(some (.ref 0))]⟩⟩
noncomputable def o75_4 (P : Params) : Obj := ⟨(.type "tuple"),none,(.seq ⟨[]⟩ 0),⟨[]⟩⟩
noncomputable def o76_4 (P : Params) : Obj := ⟨.none,none,(.fields ⟨[]⟩),⟨[]⟩⟩
noncomputable def o77_4 (P : Params) : Obj := ⟨(.type "tuple"),none,(.seq ⟨[(.str (sk [115,101,108,102]) 298),(.str (sk [116,101,120,116]) 299),(.str (sk [114,111,119]) 300)]⟩ 0),⟨[]⟩⟩
noncomputable def o78_4 (P : Params) : Obj := ⟨(.type "tuple"),none,(.seq ⟨[]⟩ 0),⟨[]⟩⟩
noncomputable def o79_4 (P : Params) : Obj := ⟨.none,none,(.func ⟨z8,(sk [83,121,109,98,111,108,115,46,95,95,105,110,105,116,95,95]),fP (TM 21 0),.stmts (fB (TM 21 0)),fS (TM 21 0),0,[],.none,.none,.none,.none,none,.none,.none,0⟩),⟨[]⟩⟩
noncomputable def o80_4 (P : Params) : Obj := ⟨(.type "code"),none,(.fields ⟨[(.str z8 295),(.str (sk [83,121,109,98,111,108,115,46,95,95,105,110,105,116,95,95]) 296),(.str z1 297),(.int (.ofNat 32) 0),(.int (.ofNat 1) 0),(.int (.ofNat 0) 0),(.int (.ofNat 0) 0),(.int (.ofNat 3) 0),(.ref 75),(.bool true),(.int (.ofNat 181) 0),(.ref 76),.none,(.ref 77),(.ref 78),(.ref 79),(.int (.ofNat 301) 0),(.int (.ofNat 32) 0),(.str z1 302)]⟩),⟨[]⟩⟩
noncomputable def o81_4 (P : Params) : Obj := ⟨(.type "function"),none,(.func ⟨z8,(sk [83,121,109,98,111,108,115,46,95,95,105,110,105,116,95,95]),fP (TM 21 0),.stmts (fB (TM 21 0)),fS (TM 21 0),3,[],.none,.none,.none,(.str z2 194),none,(.ref 80),.none,0⟩),⟨[]⟩⟩
noncomputable def o82_4 (P : Params) : Obj := ⟨(.type "tuple"),none,(.seq ⟨[]⟩ 0),⟨[]⟩⟩
noncomputable def o83_4 (P : Params) : Obj := ⟨.none,none,(.fields ⟨[]⟩),⟨[]⟩⟩
noncomputable def o84_4 (P : Params) : Obj := ⟨(.type "tuple"),none,(.seq ⟨[(.str (sk [115,101,108,102]) 307),(.str (sk [116,101,120,116]) 308),(.str (sk [102,111,117,110,100]) 309),(.str (sk [110,117,109,98,101,114]) 310)]⟩ 0),⟨[]⟩⟩
noncomputable def o85_4 (P : Params) : Obj := ⟨(.type "tuple"),none,(.seq ⟨[]⟩ 0),⟨[]⟩⟩
noncomputable def o86_4 (P : Params) : Obj := ⟨.none,none,(.func ⟨z49,(sk [83,121,109,98,111,108,115,46,97,116,111,109]),fP (TM 21 1),.stmts (fB (TM 21 1)),fS (TM 21 1),0,[],.none,.none,.none,.none,none,.none,.none,0⟩),⟨[]⟩⟩
noncomputable def o87_4 (P : Params) : Obj := ⟨(.type "code"),none,(.fields ⟨[(.str z49 304),(.str (sk [83,121,109,98,111,108,115,46,97,116,111,109]) 305),(.str z1 306),(.int (.ofNat 42) 0),(.int (.ofNat 2) 0),(.int (.ofNat 0) 0),(.int (.ofNat 0) 0),(.int (.ofNat 3) 0),(.ref 82),(.bool true),(.int (.ofNat 181) 0),(.ref 83),.none,(.ref 84),(.ref 85),(.ref 86),(.int (.ofNat 311) 0),(.int (.ofNat 42) 0),(.str z1 312)]⟩),⟨[]⟩⟩
noncomputable def o88_4 (P : Params) : Obj := ⟨(.type "function"),none,(.func ⟨z49,(sk [83,121,109,98,111,108,115,46,97,116,111,109]),fP (TM 21 1),.stmts (fB (TM 21 1)),fS (TM 21 1),3,[],.none,.none,.none,(.str z2 194),none,(.ref 87),.none,0⟩),⟨[]⟩⟩
noncomputable def o89_4 (P : Params) : Obj := ⟨(.type "tuple"),none,(.seq ⟨[]⟩ 0),⟨[]⟩⟩
noncomputable def o90_4 (P : Params) : Obj := ⟨.none,none,(.fields ⟨[]⟩),⟨[]⟩⟩
noncomputable def o91_4 (P : Params) : Obj := ⟨(.type "tuple"),none,(.seq ⟨[(.str (sk [115,101,108,102]) 317),(.str (sk [110,117,109,98,101,114]) 318)]⟩ 0),⟨[]⟩⟩
noncomputable def o92_4 (P : Params) : Obj := ⟨(.type "tuple"),none,(.seq ⟨[]⟩ 0),⟨[]⟩⟩
noncomputable def o93_4 (P : Params) : Obj := ⟨.none,none,(.func ⟨(sk [116,101,120,116]),(sk [83,121,109,98,111,108,115,46,116,101,120,116]),fP (TM 21 2),.stmts (fB (TM 21 2)),fS (TM 21 2),0,[],.none,.none,.none,.none,none,.none,.none,0⟩),⟨[]⟩⟩
noncomputable def o94_4 (P : Params) : Obj := ⟨(.type "code"),none,(.fields ⟨[(.str (sk [116,101,120,116]) 314),(.str (sk [83,121,109,98,111,108,115,46,116,101,120,116]) 315),(.str z1 316),(.int (.ofNat 51) 0),(.int (.ofNat 2) 0),(.int (.ofNat 0) 0),(.int (.ofNat 0) 0),(.int (.ofNat 3) 0),(.ref 89),(.bool true),(.int (.ofNat 181) 0),(.ref 90),.none,(.ref 91),(.ref 92),(.ref 93),(.int (.ofNat 319) 0),(.int (.ofNat 51) 0),(.str z1 320)]⟩),⟨[]⟩⟩
noncomputable def o95_4 (P : Params) : Obj := ⟨(.type "function"),none,(.func ⟨(sk [116,101,120,116]),(sk [83,121,109,98,111,108,115,46,116,101,120,116]),fP (TM 21 2),.stmts (fB (TM 21 2)),fS (TM 21 2),3,[],.none,.none,.none,(.str z2 194),none,(.ref 94),.none,0⟩),⟨[]⟩⟩
noncomputable def o96_4 (P : Params) : Obj := ⟨(.type "tuple"),none,(.seq ⟨[]⟩ 0),⟨[]⟩⟩
noncomputable def o97_4 (P : Params) : Obj := ⟨.none,none,(.fields ⟨[]⟩),⟨[]⟩⟩
noncomputable def o98_4 (P : Params) : Obj := ⟨(.type "tuple"),none,(.seq ⟨[(.str (sk [115,101,108,102]) 325),(.str z49 326),(.str (sk [97,114,105,116,121]) 327),(.str (sk [107,101,121]) 328),(.str (sk [102,111,117,110,100]) 329),(.str (sk [110,117,109,98,101,114]) 330)]⟩ 0),⟨[]⟩⟩
noncomputable def o99_4 (P : Params) : Obj := ⟨(.type "tuple"),none,(.seq ⟨[]⟩ 0),⟨[]⟩⟩
noncomputable def o100_4 (P : Params) : Obj := ⟨.none,none,(.func ⟨(sk [102,117,110,99,116,111,114]),(sk [83,121,109,98,111,108,115,46,102,117,110,99,116,111,114]),fP (TM 21 3),.stmts (fB (TM 21 3)),fS (TM 21 3),0,[],.none,.none,.none,.none,none,.none,.none,0⟩),⟨[]⟩⟩
noncomputable def o101_4 (P : Params) : Obj := ⟨(.type "code"),none,(.fields ⟨[(.str (sk [102,117,110,99,116,111,114]) 322),(.str (sk [83,121,109,98,111,108,115,46,102,117,110,99,116,111,114]) 323),(.str z1 324),(.int (.ofNat 54) 0),(.int (.ofNat 3) 0),(.int (.ofNat 0) 0),(.int (.ofNat 0) 0),(.int (.ofNat 3) 0),(.ref 96),(.bool true),(.int (.ofNat 181) 0),(.ref 97),.none,(.ref 98),(.ref 99),(.ref 100),(.int (.ofNat 331) 0),(.int (.ofNat 54) 0),(.str z1 332)]⟩),⟨[]⟩⟩
noncomputable def o102_4 (P : Params) : Obj := ⟨(.type "function"),none,(.func ⟨(sk [102,117,110,99,116,111,114]),(sk [83,121,109,98,111,108,115,46,102,117,110,99,116,111,114]),fP (TM 21 3),.stmts (fB (TM 21 3)),fS (TM 21 3),3,[],.none,.none,.none,(.str z2 194),none,(.ref 101),.none,0⟩),⟨[]⟩⟩
noncomputable def o103_4 (P : Params) : Obj := ⟨(.type "tuple"),none,(.seq ⟨[]⟩ 0),⟨[]⟩⟩
noncomputable def o104_4 (P : Params) : Obj := ⟨.none,none,(.fields ⟨[]⟩),⟨[]⟩⟩
noncomputable def o105_4 (P : Params) : Obj := ⟨(.type "tuple"),none,(.seq ⟨[(.str (sk [115,101,108,102]) 337),(.str (sk [116,101,120,116]) 338),(.str (sk [97,114,105,116,121]) 339)]⟩ 0),⟨[]⟩⟩
noncomputable def o106_4 (P : Params) : Obj := ⟨(.type "tuple"),none,(.seq ⟨[]⟩ 0),⟨[]⟩⟩
noncomputable def o107_4 (P : Params) : Obj := ⟨.none,none,(.func ⟨(sk [102,117,110,99]),(sk [83,121,109,98,111,108,115,46,102,117,110,99]),fP (TM 21 4),.stmts (fB (TM 21 4)),fS (TM 21 4),0,[],.none,.none,.none,.none,none,.none,.none,0⟩),⟨[]⟩⟩
noncomputable def o108_4 (P : Params) : Obj := ⟨(.type "code"),none,(.fields ⟨[(.str (sk [102,117,110,99]) 334),(.str (sk [83,121,109,98,111,108,115,46,102,117,110,99]) 335),(.str z1 336),(.int (.ofNat 64) 0),(.int (.ofNat 3) 0),(.int (.ofNat 0) 0),(.int (.ofNat 0) 0),(.int (.ofNat 3) 0),(.ref 103),(.bool true),(.int (.ofNat 181) 0),(.ref 104),.none,(.ref 105),(.ref 106),(.ref 107),(.int (.ofNat 340) 0),(.int (.ofNat 64) 0),(.str z1 341)]⟩),⟨[]⟩⟩
noncomputable def o109_4 (P : Params) : Obj := ⟨(.type "function"),none,(.func ⟨(sk [102,117,110,99]),(sk [83,121,109,98,111,108,115,46,102,117,110,99]),fP (TM 21 4),.stmts (fB (TM 21 4)),fS (TM 21 4),3,[],.none,.none,.none,(.str z2 194),none,(.ref 108),.none,0⟩),⟨[]⟩⟩
noncomputable def o110_4 (P : Params) : Obj := ⟨(.type "tuple"),none,(.seq ⟨[]⟩ 0),⟨[]⟩⟩
noncomputable def o111_4 (P : Params) : Obj := ⟨.none,none,(.fields ⟨[]⟩),⟨[]⟩⟩
noncomputable def o112_4 (P : Params) : Obj := ⟨(.type "tuple"),none,(.seq ⟨[(.str (sk [115,101,108,102]) 346),(.str (sk [102,117,110,99,116,111,114]) 347)]⟩ 0),⟨[]⟩⟩
noncomputable def o113_4 (P : Params) : Obj := ⟨(.type "tuple"),none,(.seq ⟨[]⟩ 0),⟨[]⟩⟩
noncomputable def o114_4 (P : Params) : Obj := ⟨.none,none,(.func ⟨(sk [110,97,109,101]),(sk [83,121,109,98,111,108,115,46,110,97,109,101]),fP (TM 21 5),.stmts (fB (TM 21 5)),fS (TM 21 5),0,[],.none,.none,.none,.none,none,.none,.none,0⟩),⟨[]⟩⟩
noncomputable def o115_4 (P : Params) : Obj := ⟨(.type "code"),none,(.fields ⟨[(.str (sk [110,97,109,101]) 343),(.str (sk [83,121,109,98,111,108,115,46,110,97,109,101]) 344),(.str z1 345),(.int (.ofNat 67) 0),(.int (.ofNat 2) 0),(.int (.ofNat 0) 0),(.int (.ofNat 0) 0),(.int (.ofNat 3) 0),(.ref 110),(.bool true),(.int (.ofNat 181) 0),(.ref 111),.none,(.ref 112),(.ref 113),(.ref 114),(.int (.ofNat 348) 0),(.int (.ofNat 67) 0),(.str z1 349)]⟩),⟨[]⟩⟩
noncomputable def o116_4 (P : Params) : Obj := ⟨(.type "function"),none,(.func ⟨(sk [110,97,109,101]),(sk [83,121,109,98,111,108,115,46,110,97,109,101]),fP (TM 21 5),.stmts (fB (TM 21 5)),fS (TM 21 5),3,[],.none,.none,.none,(.str z2 194),none,(.ref 115),.none,0⟩),⟨[]⟩⟩
noncomputable def o117_4 (P : Params) : Obj := ⟨(.type "tuple"),none,(.seq ⟨[]⟩ 0),⟨[]⟩⟩
noncomputable def o118_4 (P : Params) : Obj := ⟨.none,none,(.fields ⟨[]⟩),⟨[]⟩⟩
noncomputable def o119_4 (P : Params) : Obj := ⟨(.type "tuple"),none,(.seq ⟨[(.str (sk [115,101,108,102]) 354),(.str (sk [102,117,110,99,116,111,114]) 355)]⟩ 0),⟨[]⟩⟩
noncomputable def o120_4 (P : Params) : Obj := ⟨(.type "tuple"),none,(.seq ⟨[]⟩ 0),⟨[]⟩⟩
noncomputable def o121_4 (P : Params) : Obj := ⟨.none,none,(.func ⟨(sk [97,114,105,116,121]),(sk [83,121,109,98,111,108,115,46,97,114,105,116,121]),fP (TM 21 6),.stmts (fB (TM 21 6)),fS (TM 21 6),0,[],.none,.none,.none,.none,none,.none,.none,0⟩),⟨[]⟩⟩
noncomputable def o122_4 (P : Params) : Obj := ⟨(.type "code"),none,(.fields ⟨[(.str (sk [97,114,105,116,121]) 351),(.str (sk [83,121,109,98,111,108,115,46,97,114,105,116,121]) 352),(.str z1 353),(.int (.ofNat 70) 0),(.int (.ofNat 2) 0),(.int (.ofNat 0) 0),(.int (.ofNat 0) 0),(.int (.ofNat 3) 0),(.ref 117),(.bool true),(.int (.ofNat 181) 0),(.ref 118),.none,(.ref 119),(.ref 120),(.ref 121),(.int (.ofNat 356) 0),(.int (.ofNat 70) 0),(.str z1 357)]⟩),⟨[]⟩⟩
noncomputable def o123_4 (P : Params) : Obj := ⟨(.type "function"),none,(.func ⟨(sk [97,114,105,116,121]),(sk [83,121,109,98,111,108,115,46,97,114,105,116,121]),fP (TM 21 6),.stmts (fB (TM 21 6)),fS (TM 21 6),3,[],.none,.none,.none,(.str z2 194),none,(.ref 122),.none,0⟩),⟨[]⟩⟩
noncomputable def o124_4 (P : Params) : Obj := ⟨(.type "tuple"),none,(.seq ⟨[]⟩ 0),⟨[]⟩⟩
noncomputable def o125_4 (P : Params) : Obj := ⟨.none,none,(.fields ⟨[]⟩),⟨[]⟩⟩
noncomputable def o126_4 (P : Params) : Obj := ⟨(.type "tuple"),none,(.seq ⟨[(.str (sk [115,101,108,102]) 362),(.str (sk [102,117,110,99,116,111,114]) 363)]⟩ 0),⟨[]⟩⟩
noncomputable def o127_4 (P : Params) : Obj := ⟨(.type "tuple"),none,(.seq ⟨[]⟩ 0),⟨[]⟩⟩
noncomputable def o128_4 (P : Params) : Obj := ⟨.none,none,(.func ⟨(sk [108,97,98,101,108]),(sk [83,121,109,98,111,108,115,46,108,97,98,101,108]),fP (TM 21 7),.stmts (fB (TM 21 7)),fS (TM 21 7),0,[],.none,.none,.none,.none,none,.none,.none,0⟩),⟨[]⟩⟩
noncomputable def o129_4 (P : Params) : Obj := ⟨(.type "code"),none,(.fields ⟨[(.str (sk [108,97,98,101,108]) 359),(.str (sk [83,121,109,98,111,108,115,46,108,97,98,101,108]) 360),(.str z1 361),(.int (.ofNat 73) 0),(.int (.ofNat 2) 0),(.int (.ofNat 0) 0),(.int (.ofNat 0) 0),(.int (.ofNat 3) 0),(.ref 124),(.bool true),(.int (.ofNat 181) 0),(.ref 125),.none,(.ref 126),(.ref 127),(.ref 128),(.int (.ofNat 364) 0),(.int (.ofNat 73) 0),(.str z1 365)]⟩),⟨[]⟩⟩
noncomputable def o130_4 (P : Params) : Obj := ⟨(.type "function"),none,(.func ⟨(sk [108,97,98,101,108]),(sk [83,121,109,98,111,108,115,46,108,97,98,101,108]),fP (TM 21 7),.stmts (fB (TM 21 7)),fS (TM 21 7),3,[],.none,.none,.none,(.str z2 194),none,(.ref 129),.none,0⟩),⟨[]⟩⟩
noncomputable def o131_4 (P : Params) : Obj := ⟨(.type "tuple"),none,(.seq ⟨[]⟩ 0),⟨[]⟩⟩
noncomputable def o132_4 (P : Params) : Obj := ⟨.none,none,(.fields ⟨[]⟩),⟨[]⟩⟩
noncomputable def o133_4 (P : Params) : Obj := ⟨(.type "tuple"),none,(.seq ⟨[(.str (sk [115,101,108,102]) 370)]⟩ 0),⟨[]⟩⟩
noncomputable def o134_4 (P : Params) : Obj := ⟨(.type "tuple"),none,(.seq ⟨[]⟩ 0),⟨[]⟩⟩
noncomputable def o135_4 (P : Params) : Obj := ⟨.none,none,(.func ⟨(sk [99,111,117,110,116]),(sk [83,121,109,98,111,108,115,46,99,111,117,110,116]),fP (TM 21 8),.stmts (fB (TM 21 8)),fS (TM 21 8),0,[],.none,.none,.none,.none,none,.none,.none,0⟩),⟨[]⟩⟩
noncomputable def o136_4 (P : Params) : Obj := ⟨(.type "code"),none,(.fields ⟨[(.str (sk [99,111,117,110,116]) 367),(.str (sk [83,121,109,98,111,108,115,46,99,111,117,110,116]) 368),(.str z1 369),(.int (.ofNat 76) 0),(.int (.ofNat 1) 0),(.int (.ofNat 0) 0),(.int (.ofNat 0) 0),(.int (.ofNat 3) 0),(.ref 131),(.bool true),(.int (.ofNat 181) 0),(.ref 132),.none,(.ref 133),(.ref 134),(.ref 135),(.int (.ofNat 371) 0),(.int (.ofNat 76) 0),(.str z1 372)]⟩),⟨[]⟩⟩
noncomputable def o137_4 (P : Params) : Obj := ⟨(.type "function"),none,(.func ⟨(sk [99,111,117,110,116]),(sk [83,121,109,98,111,108,115,46,99,111,117,110,116]),fP (TM 21 8),.stmts (fB (TM 21 8)),fS (TM 21 8),3,[],.none,.none,.none,(.str z2 194),none,(.ref 136),.none,0⟩),⟨[]⟩⟩
noncomputable def o138_4 (P : Params) : Obj := ⟨(.type "tuple"),none,(.seq ⟨[]⟩ 0),⟨[]⟩⟩
noncomputable def o139_4 (P : Params) : Obj := ⟨.none,none,(.fields ⟨[]⟩),⟨[]⟩⟩
noncomputable def o140_4 (P : Params) : Obj := ⟨(.type "tuple"),none,(.seq ⟨[(.str (sk [115,101,108,102]) 377)]⟩ 0),⟨[]⟩⟩
noncomputable def o141_4 (P : Params) : Obj := ⟨(.type "tuple"),none,(.seq ⟨[]⟩ 0),⟨[]⟩⟩
noncomputable def o142_4 (P : Params) : Obj := ⟨.none,none,(.func ⟨z61,(sk [83,121,109,98,111,108,115,46,102,117,110,99,116,111,114,95,99,111,117,110,116]),fP (TM 21 9),.stmts (fB (TM 21 9)),fS (TM 21 9),0,[],.none,.none,.none,.none,none,.none,.none,0⟩),⟨[]⟩⟩
noncomputable def o143_4 (P : Params) : Obj := ⟨(.type "code"),none,(.fields ⟨[(.str z61 374),(.str (sk [83,121,109,98,111,108,115,46,102,117,110,99,116,111,114,95,99,111,117,110,116]) 375),(.str z1 376),(.int (.ofNat 79) 0),(.int (.ofNat 1) 0),(.int (.ofNat 0) 0),(.int (.ofNat 0) 0),(.int (.ofNat 3) 0),(.ref 138),(.bool true),(.int (.ofNat 181) 0),(.ref 139),.none,(.ref 140),(.ref 141),(.ref 142),(.int (.ofNat 378) 0),(.int (.ofNat 79) 0),(.str z1 379)]⟩),⟨[]⟩⟩
noncomputable def o144_4 (P : Params) : Obj := ⟨(.type "function"),none,(.func ⟨z61,(sk [83,121,109,98,111,108,115,46,102,117,110,99,116,111,114,95,99,111,117,110,116]),fP (TM 21 9),.stmts (fB (TM 21 9)),fS (TM 21 9),3,[],.none,.none,.none,(.str z2 194),none,(.ref 143),.none,0⟩),⟨[]⟩⟩
noncomputable def o145_4 (P : Params) : Obj := ⟨(.type "tuple"),none,(.seq ⟨[]⟩ 0),⟨[]⟩⟩
noncomputable def o146_4 (P : Params) : Obj := ⟨.none,none,(.fields ⟨[]⟩),⟨[]⟩⟩
noncomputable def o147_4 (P : Params) : Obj := ⟨(.type "tuple"),none,(.seq ⟨[(.str (sk [115,101,108,102]) 384),(.str (sk [116,101,120,116]) 385),(.str (sk [97,114,105,116,121]) 386)]⟩ 0),⟨[]⟩⟩
noncomputable def o148_4 (P : Params) : Obj := ⟨(.type "tuple"),none,(.seq ⟨[]⟩ 0),⟨[]⟩⟩
noncomputable def o149_4 (P : Params) : Obj := ⟨.none,none,(.func ⟨(sk [107,110,111,119,110]),(sk [83,121,109,98,111,108,115,46,107,110,111,119,110]),fP (TM 21 10),.stmts (fB (TM 21 10)),fS (TM 21 10),0,[],.none,.none,.none,.none,none,.none,.none,0⟩),⟨[]⟩⟩
noncomputable def o150_4 (P : Params) : Obj := ⟨(.type "code"),none,(.fields ⟨[(.str (sk [107,110,111,119,110]) 381),(.str (sk [83,121,109,98,111,108,115,46,107,110,111,119,110]) 382),(.str z1 383),(.int (.ofNat 82) 0),(.int (.ofNat 3) 0),(.int (.ofNat 0) 0),(.int (.ofNat 0) 0),(.int (.ofNat 3) 0),(.ref 145),(.bool true),(.int (.ofNat 181) 0),(.ref 146),.none,(.ref 147),(.ref 148),(.ref 149),(.int (.ofNat 387) 0),(.int (.ofNat 82) 0),(.str z1 388)]⟩),⟨[]⟩⟩
noncomputable def o151_4 (P : Params) : Obj := ⟨(.type "function"),none,(.func ⟨(sk [107,110,111,119,110]),(sk [83,121,109,98,111,108,115,46,107,110,111,119,110]),fP (TM 21 10),.stmts (fB (TM 21 10)),fS (TM 21 10),3,[],.none,.none,.none,(.str z2 194),none,(.ref 150),.none,0⟩),⟨[]⟩⟩
noncomputable def o152_4 (P : Params) : Obj := ⟨(.type "tuple"),none,(.seq ⟨[(.str (sk [97,116,111,109,95,110,117,109,98,101,114,115]) 390),(.str (sk [102,117,110,99,116,111,114,95,110,117,109,98,101,114,115]) 391),(.str (sk [102,117,110,99,116,111,114,115]) 392),(.str (sk [116,101,120,116,115]) 393)]⟩ 0),⟨[]⟩⟩
noncomputable def o153_4 (P : Params) : Obj := ⟨(.type "dict"),none,(.dict ⟨[⟨(PyData.keyHash P z13),(.str z13 290),(.str z2 194)⟩,⟨(PyData.keyHash P z5),(.str z5 294),(.int (.ofNat 30) 293)⟩,⟨(PyData.keyHash P z8),(.str z8 303),(.ref 81)⟩,⟨(PyData.keyHash P z49),(.str z49 313),(.ref 88)⟩,⟨(PyData.keyHash P (sk [116,101,120,116])),(.str (sk [116,101,120,116]) 321),(.ref 95)⟩,⟨(PyData.keyHash P (sk [102,117,110,99,116,111,114])),(.str (sk [102,117,110,99,116,111,114]) 333),(.ref 102)⟩,⟨(PyData.keyHash P (sk [102,117,110,99])),(.str (sk [102,117,110,99]) 342),(.ref 109)⟩,⟨(PyData.keyHash P (sk [110,97,109,101])),(.str (sk [110,97,109,101]) 350),(.ref 116)⟩,⟨(PyData.keyHash P (sk [97,114,105,116,121])),(.str (sk [97,114,105,116,121]) 358),(.ref 123)⟩,⟨(PyData.keyHash P (sk [108,97,98,101,108])),(.str (sk [108,97,98,101,108]) 366),(.ref 130)⟩,⟨(PyData.keyHash P (sk [99,111,117,110,116])),(.str (sk [99,111,117,110,116]) 373),(.ref 137)⟩,⟨(PyData.keyHash P z61),(.str z61 380),(.ref 144)⟩,⟨(PyData.keyHash P (sk [107,110,111,119,110])),(.str (sk [107,110,111,119,110]) 389),(.ref 151)⟩,⟨(PyData.keyHash P z3),(.str z3 394),(.ref 152)⟩,⟨(PyData.keyHash P z60),(.str z60 396),(.ref 155)⟩,⟨(PyData.keyHash P z29),(.str z29 398),(.ref 156)⟩,⟨(PyData.keyHash P z17),(.str z17 399),.none⟩]⟩ 4),⟨[]⟩⟩
noncomputable def o154_4 (P : Params) : Obj := ⟨(.type "type"),none,(.cls ⟨z35,[(.type "object")],[(.ref 154),(.type "object")],153,z35,true,[],[],false,none,false⟩),⟨[none,none,(some (.str z35 283)),(some (.str z35 291)),(some (.builtin "object.__new__")),(some (.bool true))]⟩⟩
noncomputable def o155_4 (P : Params) : Obj := ⟨(.type "getset_descriptor"),none,(.fields ⟨[(.str z60 395),(.ref 154),(.builtin "function.__dict__"),(.builtin "function.__dict__#set")]⟩),⟨[]⟩⟩
noncomputable def o156_4 (P : Params) : Obj := ⟨(.type "getset_descriptor"),none,(.fields ⟨[(.str z29 397),(.ref 154),(.builtin "ExceptionGroup.__weakref__"),.none]⟩),⟨[]⟩⟩
noncomputable def o157_4 (P : Params) : Obj := ⟨(.type "super"),none,(.fields ⟨[(.ref 154),(.ref 154),(.ref 154)]⟩),⟨[]⟩⟩
noncomputable def o158_4 (P : Params) : Obj := ⟨(.type "builtin_function_or_method"),none,(.fields ⟨[(.builtin "object.__init_subclass__"),(.ref 154)]⟩),⟨[]⟩⟩
noncomputable def tree4 (P : Params) : BT := (.node (PySem.W.boot_o_0 P) (.node (PySem.W.boot_o_1 P) (.node (o3_4 P) (.node (PySem.W.boot_o_7 P) (.node (o15_1 P) (.node (o31_2 P) (.node (o63_3 P) (.node (o127_4 P) .nil .nil) .nil) (.node (o95_4 P) .nil .nil)) (.node (o47_2 P) (.node (o79_4 P) (.node (o143_4 P) .nil .nil) .nil) (.node (o111_4 P) .nil .nil))) (.node (o23_1 P) (.node (o39_2 P) (.node (o71_4 P) (.node (o135_4 P) .nil .nil) .nil) (.node (o103_4 P) .nil .nil)) (.node (o55_3 P) (.node (o87_4 P) (.node (o151_4 P) .nil .nil) .nil) (.node (o119_4 P) .nil .nil)))) (.node (o11a P) (.node (o19_1 P) (.node (o35_2 P) (.node (o67_3 P) (.node (o131_4 P) .nil .nil) .nil) (.node (o99_4 P) .nil .nil)) (.node (o51_2 P) (.node (o83_4 P) (.node (o147_4 P) .nil .nil) .nil) (.node (o115_4 P) .nil .nil))) (.node (o27_1 P) (.node (o43_2 P) (.node (o75_4 P) (.node (o139_4 P) .nil .nil) .nil) (.node (o107_4 P) .nil .nil)) (.node (o59_3 P) (.node (o91_4 P) (.node (o155_4 P) .nil .nil) .nil) (.node (o123_4 P) .nil .nil))))) (.node (PySem.W.boot_o_5 P) (.node (PySem.W.boot_o_9 P) (.node (o17_1 P) (.node (o33_1 P) (.node (o65_3 P) (.node (o129_4 P) .nil .nil) .nil) (.node (o97_4 P) .nil .nil)) (.node (o49_2 P) (.node (o81_4 P) (.node (o145_4 P) .nil .nil) .nil) (.node (o113_4 P) .nil .nil))) (.node (o25_1 P) (.node (o41_2 P) (.node (o73_4 P) (.node (o137_4 P) .nil .nil) .nil) (.node (o105_4 P) .nil .nil)) (.node (o57_3 P) (.node (o89_4 P) (.node (o153_4 P) .nil .nil) .nil) (.node (o121_4 P) .nil .nil)))) (.node (o13a P) (.node (o21_1 P) (.node (o37_2 P) (.node (o69_4 P) (.node (o133_4 P) .nil .nil) .nil) (.node (o101_4 P) .nil .nil)) (.node (o53_2 P) (.node (o85_4 P) (.node (o149_4 P) .nil .nil) .nil) (.node (o117_4 P) .nil .nil))) (.node (o29_1 P) (.node (o45_2 P) (.node (o77_4 P) (.node (o141_4 P) .nil .nil) .nil) (.node (o109_4 P) .nil .nil)) (.node (o61_3 P) (.node (o93_4 P) (.node (o157_4 P) .nil .nil) .nil) (.node (o125_4 P) .nil .nil)))))) (.node (o2_1 P) (.node (PySem.W.boot_o_4 P) (.node (PySem.W.boot_o_8 P) (.node (o16_1 P) (.node (o32_1 P) (.node (o64_3 P) (.node (o128_4 P) .nil .nil) .nil) (.node (o96_4 P) .nil .nil)) (.node (o48_2 P) (.node (o80_4 P) (.node (o144_4 P) .nil .nil) .nil) (.node (o112_4 P) .nil .nil))) (.node (o24_1 P) (.node (o40_2 P) (.node (o72_4 P) (.node (o136_4 P) .nil .nil) .nil) (.node (o104_4 P) .nil .nil)) (.node (o56_3 P) (.node (o88_4 P) (.node (o152_4 P) .nil .nil) .nil) (.node (o120_4 P) .nil .nil)))) (.node (o12_4 P) (.node (o20_1 P) (.node (o36_2 P) (.node (o68_4 P) (.node (o132_4 P) .nil .nil) .nil) (.node (o100_4 P) .nil .nil)) (.node (o52_2 P) (.node (o84_4 P) (.node (o148_4 P) .nil .nil) .nil) (.node (o116_4 P) .nil .nil))) (.node (o28_1 P) (.node (o44_2 P) (.node (o76_4 P) (.node (o140_4 P) .nil .nil) .nil) (.node (o108_4 P) .nil .nil)) (.node (o60_3 P) (.node (o92_4 P) (.node (o156_4 P) .nil .nil) .nil) (.node (o124_4 P) .nil .nil))))) (.node (PySem.W.boot_o_6 P) (.node (PySem.W.boot_o_10 P) (.node (o18_1 P) (.node (o34_1 P) (.node (o66_3 P) (.node (o130_4 P) .nil .nil) .nil) (.node (o98_4 P) .nil .nil)) (.node (o50_2 P) (.node (o82_4 P) (.node (o146_4 P) .nil .nil) .nil) (.node (o114_4 P) .nil .nil))) (.node (o26_1 P) (.node (o42_2 P) (.node (o74_4 P) (.node (o138_4 P) .nil .nil) .nil) (.node (o106_4 P) .nil .nil)) (.node (o58_3 P) (.node (o90_4 P) (.node (o154_4 P) .nil .nil) .nil) (.node (o122_4 P) .nil .nil)))) (.node (o14a P) (.node (o22_1 P) (.node (o38_2 P) (.node (o70_4 P) (.node (o134_4 P) .nil .nil) .nil) (.node (o102_4 P) .nil .nil)) (.node (o54_3 P) (.node (o86_4 P) (.node (o150_4 P) .nil .nil) .nil) (.node (o118_4 P) .nil .nil))) (.node (o30_1 P) (.node (o46_2 P) (.node (o78_4 P) (.node (o142_4 P) .nil .nil) .nil) (.node (o110_4 P) .nil .nil)) (.node (o62_3 P) (.node (o94_4 P) (.node (o158_4 P) .nil .nil) .nil) (.node (o126_4 P) .nil .nil)))))))
noncomputable abbrev S4 (w : World) (os : OsState) : SharedT := ⟨tree4 w.params,159,life0,⟨[]⟩,PySem.W.boot_drawn,402,os⟩
noncomputable def sts4 : List Stmt := [T 21]
theorem pc4 (w : World) (os : OsState) : segRunT treeTable PT w 11 ann0 1 553 (S3 w os) (piecesOf sts4 env0 cE ⟨28, 0, 29, 389⟩ [topFrame q0]) = some (.next, S4 w os, cE, ⟨30, 0, 83, 16⟩) := by
  rw [show @segRunT = _ from PySem.W.Fast.te10110043849684766642, show @treeTable = _ from PySem.W.Fast.te14364793385576792824]
  delta piecesOf
  rw [show @execs = _ from PySem.W.Fast.te12563942051412417395]
  kernel_rfl
noncomputable def o3_5 (P : Params) : Obj := ⟨(.type "dict"),none,(.dict ⟨[⟨(PyData.keyHash P z37),(.str z37 165),(.str z12 402)⟩,⟨(PyData.keyHash P z17),(.str z17 166),.none⟩,⟨(PyData.keyHash P z21),(.str z21 167),.none⟩,⟨(PyData.keyHash P z23),(.str z23 168),(.builtin "__main__.__loader__#opaque")⟩,⟨(PyData.keyHash P z38),(.str z38 169),.none⟩,⟨(PyData.keyHash P z11),(.str z11 170),(.ref 6)⟩,⟨(PyData.keyHash P z15),(.str z15 171),(.ref 4)⟩,⟨(PyData.keyHash P z34),(.str z34 173),(.str z1 172)⟩,⟨(PyData.keyHash P z27),(.str z27 174),.none⟩,⟨(PyData.keyHash P z41),(.str z41 193),(.ref 21)⟩,⟨(PyData.keyHash P z4),(.str z4 215),(.ref 31)⟩,⟨(PyData.keyHash P z10),(.str z10 240),(.ref 51)⟩,⟨(PyData.keyHash P (sk [65,95,78,73,76])),(.str (sk [65,95,78,73,76]) 242),(.int (.ofNat 0) 241)⟩,⟨(PyData.keyHash P (sk [65,95,66,65,82])),(.str (sk [65,95,66,65,82]) 244),(.int (.ofNat 8) 243)⟩,⟨(PyData.keyHash P (sk [65,95,67,85,84])),(.str (sk [65,95,67,85,84]) 246),(.int (.ofNat 15) 245)⟩,⟨(PyData.keyHash P (sk [65,95,84,82,85,69])),(.str (sk [65,95,84,82,85,69]) 248),(.int (.ofNat 16) 247)⟩,⟨(PyData.keyHash P z50),(.str z50 250),(.int (.ofNat 25) 249)⟩,⟨(PyData.keyHash P (sk [70,95,68,79,84])),(.str (sk [70,95,68,79,84]) 252),(.int (.ofNat 0) 251)⟩,⟨(PyData.keyHash P z55),(.str z55 254),(.int (.ofNat 1) 253)⟩,⟨(PyData.keyHash P (sk [70,95,83,69,77,73])),(.str (sk [70,95,83,69,77,73]) 256),(.int (.ofNat 2) 255)⟩,⟨(PyData.keyHash P z56),(.str z56 258),(.int (.ofNat 3) 257)⟩,⟨(PyData.keyHash P (sk [70,95,78,79,84])),(.str (sk [70,95,78,79,84]) 260),(.int (.ofNat 4) 259)⟩,⟨(PyData.keyHash P (sk [70,95,78,69,67,75])),(.str (sk [70,95,78,69,67,75]) 262),(.int (.ofNat 5) 261)⟩,⟨(PyData.keyHash P z42),(.str z42 264),(.int (.ofNat 8) 263)⟩,⟨(PyData.keyHash P z57),(.str z57 266),(.int (.ofNat 9) 265)⟩,⟨(PyData.keyHash P z58),(.str z58 268),(.int (.ofNat 10) 267)⟩,⟨(PyData.keyHash P z59),(.str z59 270),(.int (.ofNat 16) 269)⟩,⟨(PyData.keyHash P z14),(.str z14 276),(.ref 60)⟩,⟨(PyData.keyHash P z7),(.str z7 282),(.ref 67)⟩,⟨(PyData.keyHash P z35),(.str z35 401),(.ref 154)⟩,⟨(PyData.keyHash P (sk [78,73,76])),(.str (sk [78,73,76]) 405),(.ref 159)⟩,⟨(PyData.keyHash P (sk [118,97,114])),(.str (sk [118,97,114]) 412),(.ref 166)⟩,⟨(PyData.keyHash P z49),(.str z49 419),(.ref 173)⟩,⟨(PyData.keyHash P z51),(.str z51 427),(.ref 180)⟩,⟨(PyData.keyHash P z30),(.str z30 437),(.ref 188)⟩,⟨(PyData.keyHash P z24),(.str z24 445),(.ref 195)⟩,⟨(PyData.keyHash P z25),(.str z25 452),(.ref 202)⟩,⟨(PyData.keyHash P z26),(.str z26 460),(.ref 209)⟩,⟨(PyData.keyHash P z31),(.str z31 467),(.ref 216)⟩,⟨(PyData.keyHash P z33),(.str z33 474),(.ref 223)⟩,⟨(PyData.keyHash P z20),(.str z20 485),(.ref 230)⟩,⟨(PyData.keyHash P z22),(.str z22 494),(.ref 237)⟩,⟨(PyData.keyHash P z16),(.str z16 501),(.ref 244)⟩]⟩ 43),⟨[]⟩⟩
noncomputable def o12_5 (P : Params) : Obj := ⟨.none,none,(.fields ⟨[(.int (.ofNat 1) 0),(.int (.ofNat 0) 0),(.ref 20),(.int (.ofNat 5) 0),(.int (.ofNat 0) 0),(.ref 27),(.int (.ofNat 7) 0),(.int (.ofNat 0) 0),(.ref 40),(.int (.ofNat 26) 0),(.int (.ofNat 0) 0),(.ref 59),(.int (.ofNat 28) 0),(.int (.ofNat 0) 0),(.ref 66),(.int (.ofNat 30) 0),(.int (.ofNat 0) 0),(.ref 73),(.int (.ofNat 86) 0),(.int (.ofNat 0) 0),(.ref 165),(.int (.ofNat 88) 0),(.int (.ofNat 0) 0),(.ref 172),(.int (.ofNat 90) 0),(.int (.ofNat 0) 0),(.ref 179),(.int (.ofNat 92) 0),(.int (.ofNat 0) 0),(.ref 187),(.int (.ofNat 97) 0),(.int (.ofNat 0) 0),(.ref 194),(.int (.ofNat 103) 0),(.int (.ofNat 0) 0),(.ref 201),(.int (.ofNat 105) 0),(.int (.ofNat 0) 0),(.ref 208),(.int (.ofNat 109) 0),(.int (.ofNat 0) 0),(.ref 215),(.int (.ofNat 113) 0),(.int (.ofNat 0) 0),(.ref 222),(.int (.ofNat 115) 0),(.int (.ofNat 0) 0),(.ref 229),(.int (.ofNat 128) 0),(.int (.ofNat 0) 0),(.ref 236),(.int (.ofNat 135) 0),(.int (.ofNat 0) 0),(.ref 243)]⟩),⟨[]⟩⟩
noncomputable def o159_5 (P : Params) : Obj := ⟨(.type "tuple"),none,(.seq ⟨[(.str (sk [97]) 404),(.int (.ofNat 0) 241)]⟩ 0),⟨[]⟩⟩
noncomputable def o160_5 (P : Params) : Obj := ⟨(.type "tuple"),none,(.seq ⟨[]⟩ 0),⟨[]⟩⟩
noncomputable def o161_5 (P : Params) : Obj := ⟨.none,none,(.fields ⟨[]⟩),⟨[]⟩⟩
noncomputable def o162_5 (P : Params) : Obj := ⟨(.type "tuple"),none,(.seq ⟨[(.str (sk [110,117,109,98,101,114]) 409)]⟩ 0),⟨[]⟩⟩
noncomputable def o163_5 (P : Params) : Obj := ⟨(.type "tuple"),none,(.seq ⟨[]⟩ 0),⟨[]⟩⟩
noncomputable def o164_5 (P : Params) : Obj := ⟨.none,none,(.func ⟨(sk [118,97,114]),(sk [118,97,114]),fP (T 24),.stmts (fB (T 24)),fS (T 24),0,[],.none,.none,.none,.none,none,.none,.none,0⟩),⟨[]⟩⟩
noncomputable def o165_5 (P : Params) : Obj := ⟨(.type "code"),none,(.fields ⟨[(.str (sk [118,97,114]) 406),(.str (sk [118,97,114]) 407),(.str z1 408),(.int (.ofNat 86) 0),(.int (.ofNat 1) 0),(.int (.ofNat 0) 0),(.int (.ofNat 0) 0),(.int (.ofNat 3) 0),(.ref 160),(.bool true),(.int (.ofNat 181) 0),(.ref 161),.none,(.ref 162),(.ref 163),(.ref 164),(.int (.ofNat 410) 0),(.int (.ofNat 86) 0),(.str z1 411)]⟩),⟨[]⟩⟩
noncomputable def o166_5 (P : Params) : Obj := ⟨(.type "function"),none,(.func ⟨(sk [118,97,114]),(sk [118,97,114]),fP (T 24),.stmts (fB (T 24)),fS (T 24),3,[],.none,.none,.none,(.str z12 402),none,(.ref 165),.none,0⟩),⟨[]⟩⟩
noncomputable def o167_5 (P : Params) : Obj := ⟨(.type "tuple"),none,(.seq ⟨[]⟩ 0),⟨[]⟩⟩
noncomputable def o168_5 (P : Params) : Obj := ⟨.none,none,(.fields ⟨[]⟩),⟨[]⟩⟩
noncomputable def o169_5 (P : Params) : Obj := ⟨(.type "tuple"),none,(.seq ⟨[(.str (sk [110,117,109,98,101,114]) 416)]⟩ 0),⟨[]⟩⟩
noncomputable def o170_5 (P : Params) : Obj := ⟨(.type "tuple"),none,(.seq ⟨[]⟩ 0),⟨[]⟩⟩
noncomputable def o171_5 (P : Params) : Obj := ⟨.none,none,(.func ⟨z49,z49,fP (T 25),.stmts (fB (T 25)),fS (T 25),0,[],.none,.none,.none,.none,none,.none,.none,0⟩),⟨[]⟩⟩
noncomputable def o172_5 (P : Params) : Obj := ⟨(.type "code"),none,(.fields ⟨[(.str z49 413),(.str z49 414),(.str z1 415),(.int (.ofNat 88) 0),(.int (.ofNat 1) 0),(.int (.ofNat 0) 0),(.int (.ofNat 0) 0),(.int (.ofNat 3) 0),(.ref 167),(.bool true),(.int (.ofNat 181) 0),(.ref 168),.none,(.ref 169),(.ref 170),(.ref 171),(.int (.ofNat 417) 0),(.int (.ofNat 88) 0),(.str z1 418)]⟩),⟨[]⟩⟩
noncomputable def o173_5 (P : Params) : Obj := ⟨(.type "function"),none,(.func ⟨z49,z49,fP (T 25),.stmts (fB (T 25)),fS (T 25),3,[],.none,.none,.none,(.str z12 402),none,(.ref 172),.none,0⟩),⟨[]⟩⟩
noncomputable def o174_5 (P : Params) : Obj := ⟨(.type "tuple"),none,(.seq ⟨[]⟩ 0),⟨[]⟩⟩
noncomputable def o175_5 (P : Params) : Obj := ⟨.none,none,(.fields ⟨[]⟩),⟨[]⟩⟩
noncomputable def o176_5 (P : Params) : Obj := ⟨(.type "tuple"),none,(.seq ⟨[(.str (sk [102,117,110,99,116,111,114]) 423),(.str (sk [97,114,103,115]) 424)]⟩ 0),⟨[]⟩⟩
noncomputable def o177_5 (P : Params) : Obj := ⟨(.type "tuple"),none,(.seq ⟨[]⟩ 0),⟨[]⟩⟩
noncomputable def o178_5 (P : Params) : Obj := ⟨.none,none,(.func ⟨z51,z51,fP (T 26),.stmts (fB (T 26)),fS (T 26),0,[],.none,.none,.none,.none,none,.none,.none,0⟩),⟨[]⟩⟩
noncomputable def o179_5 (P : Params) : Obj := ⟨(.type "code"),none,(.fields ⟨[(.str z51 420),(.str z51 421),(.str z1 422),(.int (.ofNat 90) 0),(.int (.ofNat 2) 0),(.int (.ofNat 0) 0),(.int (.ofNat 0) 0),(.int (.ofNat 3) 0),(.ref 174),(.bool true),(.int (.ofNat 181) 0),(.ref 175),.none,(.ref 176),(.ref 177),(.ref 178),(.int (.ofNat 425) 0),(.int (.ofNat 90) 0),(.str z1 426)]⟩),⟨[]⟩⟩
noncomputable def o180_5 (P : Params) : Obj := ⟨(.type "function"),none,(.func ⟨z51,z51,fP (T 26),.stmts (fB (T 26)),fS (T 26),3,[],.none,.none,.none,(.str z12 402),none,(.ref 179),.none,0⟩),⟨[]⟩⟩
noncomputable def o181_5 (P : Params) : Obj := ⟨(.type "tuple"),none,(.seq ⟨[.none]⟩ 0),⟨[]⟩⟩
noncomputable def o182_5 (P : Params) : Obj := ⟨(.type "tuple"),none,(.seq ⟨[]⟩ 0),⟨[]⟩⟩
noncomputable def o183_5 (P : Params) : Obj := ⟨.none,none,(.fields ⟨[]⟩),⟨[]⟩⟩
noncomputable def o184_5 (P : Params) : Obj := ⟨(.type "tuple"),none,(.seq ⟨[(.str (sk [105,116,101,109,115]) 431),(.str (sk [116,97,105,108]) 432),(.str (sk [114,101,115,117,108,116]) 433),(.str (sk [105,116,101,109]) 434)]⟩ 0),⟨[]⟩⟩
noncomputable def o185_5 (P : Params) : Obj := ⟨(.type "tuple"),none,(.seq ⟨[]⟩ 0),⟨[]⟩⟩
noncomputable def o186_5 (P : Params) : Obj := ⟨.none,none,(.func ⟨z30,z30,fP (T 27),.stmts (fB (T 27)),fS (T 27),0,[],.none,.none,.none,.none,none,.none,.none,0⟩),⟨[]⟩⟩
noncomputable def o187_5 (P : Params) : Obj := ⟨(.type "code"),none,(.fields ⟨[(.str z30 428),(.str z30 429),(.str z1 430),(.int (.ofNat 92) 0),(.int (.ofNat 2) 0),(.int (.ofNat 0) 0),(.int (.ofNat 0) 0),(.int (.ofNat 3) 0),(.ref 182),(.bool true),(.int (.ofNat 181) 0),(.ref 183),.none,(.ref 184),(.ref 185),(.ref 186),(.int (.ofNat 435) 0),(.int (.ofNat 92) 0),(.str z1 436)]⟩),⟨[]⟩⟩
noncomputable def o188_5 (P : Params) : Obj := ⟨(.type "function"),none,(.func ⟨z30,z30,fP (T 27),.stmts (fB (T 27)),fS (T 27),3,[],(.ref 181),.none,.none,(.str z12 402),none,(.ref 187),.none,0⟩),⟨[]⟩⟩
noncomputable def o189_5 (P : Params) : Obj := ⟨(.type "tuple"),none,(.seq ⟨[]⟩ 0),⟨[]⟩⟩
noncomputable def o190_5 (P : Params) : Obj := ⟨.none,none,(.fields ⟨[]⟩),⟨[]⟩⟩
noncomputable def o191_5 (P : Params) : Obj := ⟨(.type "tuple"),none,(.seq ⟨[(.str (sk [116,101,114,109]) 441),(.str (sk [105,116,101,109,115]) 442)]⟩ 0),⟨[]⟩⟩
noncomputable def o192_5 (P : Params) : Obj := ⟨(.type "tuple"),none,(.seq ⟨[]⟩ 0),⟨[]⟩⟩
noncomputable def o193_5 (P : Params) : Obj := ⟨.none,none,(.func ⟨z24,z24,fP (T 28),.stmts (fB (T 28)),fS (T 28),0,[],.none,.none,.none,.none,none,.none,.none,0⟩),⟨[]⟩⟩
noncomputable def o194_5 (P : Params) : Obj := ⟨(.type "code"),none,(.fields ⟨[(.str z24 438),(.str z24 439),(.str z1 440),(.int (.ofNat 97) 0),(.int (.ofNat 1) 0),(.int (.ofNat 0) 0),(.int (.ofNat 0) 0),(.int (.ofNat 3) 0),(.ref 189),(.bool true),(.int (.ofNat 181) 0),(.ref 190),.none,(.ref 191),(.ref 192),(.ref 193),(.int (.ofNat 443) 0),(.int (.ofNat 97) 0),(.str z1 444)]⟩),⟨[]⟩⟩
noncomputable def o195_5 (P : Params) : Obj := ⟨(.type "function"),none,(.func ⟨z24,z24,fP (T 28),.stmts (fB (T 28)),fS (T 28),3,[],.none,.none,.none,(.str z12 402),none,(.ref 194),.none,0⟩),⟨[]⟩⟩
noncomputable def o196_5 (P : Params) : Obj := ⟨(.type "tuple"),none,(.seq ⟨[]⟩ 0),⟨[]⟩⟩
noncomputable def o197_5 (P : Params) : Obj := ⟨.none,none,(.fields ⟨[]⟩),⟨[]⟩⟩
noncomputable def o198_5 (P : Params) : Obj := ⟨(.type "tuple"),none,(.seq ⟨[(.str (sk [116,101,114,109]) 449)]⟩ 0),⟨[]⟩⟩
noncomputable def o199_5 (P : Params) : Obj := ⟨(.type "tuple"),none,(.seq ⟨[]⟩ 0),⟨[]⟩⟩
noncomputable def o200_5 (P : Params) : Obj := ⟨.none,none,(.func ⟨z25,z25,fP (T 29),.stmts (fB (T 29)),fS (T 29),0,[],.none,.none,.none,.none,none,.none,.none,0⟩),⟨[]⟩⟩
noncomputable def o201_5 (P : Params) : Obj := ⟨(.type "code"),none,(.fields ⟨[(.str z25 446),(.str z25 447),(.str z1 448),(.int (.ofNat 103) 0),(.int (.ofNat 1) 0),(.int (.ofNat 0) 0),(.int (.ofNat 0) 0),(.int (.ofNat 3) 0),(.ref 196),(.bool true),(.int (.ofNat 181) 0),(.ref 197),.none,(.ref 198),(.ref 199),(.ref 200),(.int (.ofNat 450) 0),(.int (.ofNat 103) 0),(.str z1 451)]⟩),⟨[]⟩⟩
noncomputable def o202_5 (P : Params) : Obj := ⟨(.type "function"),none,(.func ⟨z25,z25,fP (T 29),.stmts (fB (T 29)),fS (T 29),3,[],.none,.none,.none,(.str z12 402),none,(.ref 201),.none,0⟩),⟨[]⟩⟩
noncomputable def o203_5 (P : Params) : Obj := ⟨(.type "tuple"),none,(.seq ⟨[]⟩ 0),⟨[]⟩⟩
noncomputable def o204_5 (P : Params) : Obj := ⟨.none,none,(.fields ⟨[]⟩),⟨[]⟩⟩
noncomputable def o205_5 (P : Params) : Obj := ⟨(.type "tuple"),none,(.seq ⟨[(.str (sk [115,121,109,98,111,108,115]) 456),(.str (sk [116,101,114,109]) 457)]⟩ 0),⟨[]⟩⟩
noncomputable def o206_5 (P : Params) : Obj := ⟨(.type "tuple"),none,(.seq ⟨[]⟩ 0),⟨[]⟩⟩
noncomputable def o207_5 (P : Params) : Obj := ⟨.none,none,(.func ⟨z26,z26,fP (T 30),.stmts (fB (T 30)),fS (T 30),0,[],.none,.none,.none,.none,none,.none,.none,0⟩),⟨[]⟩⟩
noncomputable def o208_5 (P : Params) : Obj := ⟨(.type "code"),none,(.fields ⟨[(.str z26 453),(.str z26 454),(.str z1 455),(.int (.ofNat 105) 0),(.int (.ofNat 2) 0),(.int (.ofNat 0) 0),(.int (.ofNat 0) 0),(.int (.ofNat 3) 0),(.ref 203),(.bool true),(.int (.ofNat 181) 0),(.ref 204),.none,(.ref 205),(.ref 206),(.ref 207),(.int (.ofNat 458) 0),(.int (.ofNat 105) 0),(.str z1 459)]⟩),⟨[]⟩⟩
noncomputable def o209_5 (P : Params) : Obj := ⟨(.type "function"),none,(.func ⟨z26,z26,fP (T 30),.stmts (fB (T 30)),fS (T 30),3,[],.none,.none,.none,(.str z12 402),none,(.ref 208),.none,0⟩),⟨[]⟩⟩
noncomputable def o210_5 (P : Params) : Obj := ⟨(.type "tuple"),none,(.seq ⟨[]⟩ 0),⟨[]⟩⟩
noncomputable def o211_5 (P : Params) : Obj := ⟨.none,none,(.fields ⟨[]⟩),⟨[]⟩⟩
noncomputable def o212_5 (P : Params) : Obj := ⟨(.type "tuple"),none,(.seq ⟨[(.str (sk [116,101,114,109]) 464)]⟩ 0),⟨[]⟩⟩
noncomputable def o213_5 (P : Params) : Obj := ⟨(.type "tuple"),none,(.seq ⟨[]⟩ 0),⟨[]⟩⟩
noncomputable def o214_5 (P : Params) : Obj := ⟨.none,none,(.func ⟨z31,z31,fP (T 31),.stmts (fB (T 31)),fS (T 31),0,[],.none,.none,.none,.none,none,.none,.none,0⟩),⟨[]⟩⟩
noncomputable def o215_5 (P : Params) : Obj := ⟨(.type "code"),none,(.fields ⟨[(.str z31 461),(.str z31 462),(.str z1 463),(.int (.ofNat 109) 0),(.int (.ofNat 1) 0),(.int (.ofNat 0) 0),(.int (.ofNat 0) 0),(.int (.ofNat 3) 0),(.ref 210),(.bool true),(.int (.ofNat 181) 0),(.ref 211),.none,(.ref 212),(.ref 213),(.ref 214),(.int (.ofNat 465) 0),(.int (.ofNat 109) 0),(.str z1 466)]⟩),⟨[]⟩⟩
noncomputable def o216_5 (P : Params) : Obj := ⟨(.type "function"),none,(.func ⟨z31,z31,fP (T 31),.stmts (fB (T 31)),fS (T 31),3,[],.none,.none,.none,(.str z12 402),none,(.ref 215),.none,0⟩),⟨[]⟩⟩
noncomputable def o217_5 (P : Params) : Obj := ⟨(.type "tuple"),none,(.seq ⟨[]⟩ 0),⟨[]⟩⟩
noncomputable def o218_5 (P : Params) : Obj := ⟨.none,none,(.fields ⟨[]⟩),⟨[]⟩⟩
noncomputable def o219_5 (P : Params) : Obj := ⟨(.type "tuple"),none,(.seq ⟨[(.str (sk [116,101,114,109]) 471)]⟩ 0),⟨[]⟩⟩
noncomputable def o220_5 (P : Params) : Obj := ⟨(.type "tuple"),none,(.seq ⟨[]⟩ 0),⟨[]⟩⟩
noncomputable def o221_5 (P : Params) : Obj := ⟨.none,none,(.func ⟨z33,z33,fP (T 32),.stmts (fB (T 32)),fS (T 32),0,[],.none,.none,.none,.none,none,.none,.none,0⟩),⟨[]⟩⟩
noncomputable def o222_5 (P : Params) : Obj := ⟨(.type "code"),none,(.fields ⟨[(.str z33 468),(.str z33 469),(.str z1 470),(.int (.ofNat 113) 0),(.int (.ofNat 1) 0),(.int (.ofNat 0) 0),(.int (.ofNat 0) 0),(.int (.ofNat 3) 0),(.ref 217),(.bool true),(.int (.ofNat 181) 0),(.ref 218),.none,(.ref 219),(.ref 220),(.ref 221),(.int (.ofNat 472) 0),(.int (.ofNat 113) 0),(.str z1 473)]⟩),⟨[]⟩⟩
noncomputable def o223_5 (P : Params) : Obj := ⟨(.type "function"),none,(.func ⟨z33,z33,fP (T 32),.stmts (fB (T 32)),fS (T 32),3,[],.none,.none,.none,(.str z12 402),none,(.ref 222),.none,0⟩),⟨[]⟩⟩
noncomputable def o224_5 (P : Params) : Obj := ⟨(.type "tuple"),none,(.seq ⟨[]⟩ 0),⟨[]⟩⟩
noncomputable def o225_5 (P : Params) : Obj := ⟨.none,none,(.fields ⟨[]⟩),⟨[]⟩⟩
noncomputable def o226_5 (P : Params) : Obj := ⟨(.type "tuple"),none,(.seq ⟨[(.str (sk [116,101,114,109,115]) 478),(.str (sk [115,101,101,110]) 479),(.str (sk [114,101,115,117,108,116]) 480),(.str (sk [116,111,100,111]) 481),(.str (sk [116,101,114,109]) 482)]⟩ 0),⟨[]⟩⟩
noncomputable def o227_5 (P : Params) : Obj := ⟨(.type "tuple"),none,(.seq ⟨[]⟩ 0),⟨[]⟩⟩
noncomputable def o228_5 (P : Params) : Obj := ⟨.none,none,(.func ⟨z20,z20,fP (T 33),.stmts (fB (T 33)),fS (T 33),0,[],.none,.none,.none,.none,none,.none,.none,0⟩),⟨[]⟩⟩
noncomputable def o229_5 (P : Params) : Obj := ⟨(.type "code"),none,(.fields ⟨[(.str z20 475),(.str z20 476),(.str z1 477),(.int (.ofNat 115) 0),(.int (.ofNat 1) 0),(.int (.ofNat 0) 0),(.int (.ofNat 0) 0),(.int (.ofNat 3) 0),(.ref 224),(.bool true),(.int (.ofNat 181) 0),(.ref 225),.none,(.ref 226),(.ref 227),(.ref 228),(.int (.ofNat 483) 0),(.int (.ofNat 115) 0),(.str z1 484)]⟩),⟨[]⟩⟩
noncomputable def o230_5 (P : Params) : Obj := ⟨(.type "function"),none,(.func ⟨z20,z20,fP (T 33),.stmts (fB (T 33)),fS (T 33),3,[],.none,.none,.none,(.str z12 402),none,(.ref 229),.none,0⟩),⟨[]⟩⟩
noncomputable def o231_5 (P : Params) : Obj := ⟨(.type "tuple"),none,(.seq ⟨[]⟩ 0),⟨[]⟩⟩
noncomputable def o232_5 (P : Params) : Obj := ⟨.none,none,(.fields ⟨[]⟩),⟨[]⟩⟩
noncomputable def o233_5 (P : Params) : Obj := ⟨(.type "tuple"),none,(.seq ⟨[(.str (sk [103,111,97,108,115]) 489),(.str (sk [114,101,115,117,108,116]) 490),(.str (sk [112,108,97,99,101]) 491)]⟩ 0),⟨[]⟩⟩
noncomputable def o234_5 (P : Params) : Obj := ⟨(.type "tuple"),none,(.seq ⟨[]⟩ 0),⟨[]⟩⟩
noncomputable def o235_5 (P : Params) : Obj := ⟨.none,none,(.func ⟨z22,z22,fP (T 34),.stmts (fB (T 34)),fS (T 34),0,[],.none,.none,.none,.none,none,.none,.none,0⟩),⟨[]⟩⟩
noncomputable def o236_5 (P : Params) : Obj := ⟨(.type "code"),none,(.fields ⟨[(.str z22 486),(.str z22 487),(.str z1 488),(.int (.ofNat 128) 0),(.int (.ofNat 1) 0),(.int (.ofNat 0) 0),(.int (.ofNat 0) 0),(.int (.ofNat 3) 0),(.ref 231),(.bool true),(.int (.ofNat 181) 0),(.ref 232),.none,(.ref 233),(.ref 234),(.ref 235),(.int (.ofNat 492) 0),(.int (.ofNat 128) 0),(.str z1 493)]⟩),⟨[]⟩⟩
noncomputable def o237_5 (P : Params) : Obj := ⟨(.type "function"),none,(.func ⟨z22,z22,fP (T 34),.stmts (fB (T 34)),fS (T 34),3,[],.none,.none,.none,(.str z12 402),none,(.ref 236),.none,0⟩),⟨[]⟩⟩
noncomputable def o238_5 (P : Params) : Obj := ⟨(.type "tuple"),none,(.seq ⟨[]⟩ 0),⟨[]⟩⟩
noncomputable def o239_5 (P : Params) : Obj := ⟨.none,none,(.fields ⟨[]⟩),⟨[]⟩⟩
noncomputable def o240_5 (P : Params) : Obj := ⟨(.type "tuple"),none,(.seq ⟨[(.str (sk [102,111,114,109,97,108]) 498)]⟩ 0),⟨[]⟩⟩
noncomputable def o241_5 (P : Params) : Obj := ⟨(.type "tuple"),none,(.seq ⟨[]⟩ 0),⟨[]⟩⟩
noncomputable def o242_5 (P : Params) : Obj := ⟨.none,none,(.func ⟨z16,z16,fP (T 35),.stmts (fB (T 35)),fS (T 35),0,[],.none,.none,.none,.none,none,.none,.none,0⟩),⟨[]⟩⟩
noncomputable def o243_5 (P : Params) : Obj := ⟨(.type "code"),none,(.fields ⟨[(.str z16 495),(.str z16 496),(.str z1 497),(.int (.ofNat 135) 0),(.int (.ofNat 1) 0),(.int (.ofNat 0) 0),(.int (.ofNat 0) 0),(.int (.ofNat 3) 0),(.ref 238),(.bool true),(.int (.ofNat 181) 0),(.ref 239),.none,(.ref 240),(.ref 241),(.ref 242),(.int (.ofNat 499) 0),(.int (.ofNat 135) 0),(.str z1 500)]⟩),⟨[]⟩⟩
noncomputable def o244_5 (P : Params) : Obj := ⟨(.type "function"),none,(.func ⟨z16,z16,fP (T 35),.stmts (fB (T 35)),fS (T 35),3,[],.none,.none,.none,(.str z12 402),none,(.ref 243),.none,0⟩),⟨[]⟩⟩
noncomputable def tree5 (P : Params) : BT := (.node (PySem.W.boot_o_0 P) (.node (PySem.W.boot_o_1 P) (.node (o3_5 P) (.node (PySem.W.boot_o_7 P) (.node (o15_1 P) (.node (o31_2 P) (.node (o63_3 P) (.node (o127_4 P) .nil .nil) (.node (o191_5 P) .nil .nil)) (.node (o95_4 P) (.node (o159_5 P) .nil .nil) (.node (o223_5 P) .nil .nil))) (.node (o47_2 P) (.node (o79_4 P) (.node (o143_4 P) .nil .nil) (.node (o207_5 P) .nil .nil)) (.node (o111_4 P) (.node (o175_5 P) .nil .nil) (.node (o239_5 P) .nil .nil)))) (.node (o23_1 P) (.node (o39_2 P) (.node (o71_4 P) (.node (o135_4 P) .nil .nil) (.node (o199_5 P) .nil .nil)) (.node (o103_4 P) (.node (o167_5 P) .nil .nil) (.node (o231_5 P) .nil .nil))) (.node (o55_3 P) (.node (o87_4 P) (.node (o151_4 P) .nil .nil) (.node (o215_5 P) .nil .nil)) (.node (o119_4 P) (.node (o183_5 P) .nil .nil) .nil)))) (.node (o11a P) (.node (o19_1 P) (.node (o35_2 P) (.node (o67_3 P) (.node (o131_4 P) .nil .nil) (.node (o195_5 P) .nil .nil)) (.node (o99_4 P) (.node (o163_5 P) .nil .nil) (.node (o227_5 P) .nil .nil))) (.node (o51_2 P) (.node (o83_4 P) (.node (o147_4 P) .nil .nil) (.node (o211_5 P) .nil .nil)) (.node (o115_4 P) (.node (o179_5 P) .nil .nil) (.node (o243_5 P) .nil .nil)))) (.node (o27_1 P) (.node (o43_2 P) (.node (o75_4 P) (.node (o139_4 P) .nil .nil) (.node (o203_5 P) .nil .nil)) (.node (o107_4 P) (.node (o171_5 P) .nil .nil) (.node (o235_5 P) .nil .nil))) (.node (o59_3 P) (.node (o91_4 P) (.node (o155_4 P) .nil .nil) (.node (o219_5 P) .nil .nil)) (.node (o123_4 P) (.node (o187_5 P) .nil .nil) .nil))))) (.node (PySem.W.boot_o_5 P) (.node (PySem.W.boot_o_9 P) (.node (o17_1 P) (.node (o33_1 P) (.node (o65_3 P) (.node (o129_4 P) .nil .nil) (.node (o193_5 P) .nil .nil)) (.node (o97_4 P) (.node (o161_5 P) .nil .nil) (.node (o225_5 P) .nil .nil))) (.node (o49_2 P) (.node (o81_4 P) (.node (o145_4 P) .nil .nil) (.node (o209_5 P) .nil .nil)) (.node (o113_4 P) (.node (o177_5 P) .nil .nil) (.node (o241_5 P) .nil .nil)))) (.node (o25_1 P) (.node (o41_2 P) (.node (o73_4 P) (.node (o137_4 P) .nil .nil) (.node (o201_5 P) .nil .nil)) (.node (o105_4 P) (.node (o169_5 P) .nil .nil) (.node (o233_5 P) .nil .nil))) (.node (o57_3 P) (.node (o89_4 P) (.node (o153_4 P) .nil .nil) (.node (o217_5 P) .nil .nil)) (.node (o121_4 P) (.node (o185_5 P) .nil .nil) .nil)))) (.node (o13a P) (.node (o21_1 P) (.node (o37_2 P) (.node (o69_4 P) (.node (o133_4 P) .nil .nil) (.node (o197_5 P) .nil .nil)) (.node (o101_4 P) (.node (o165_5 P) .nil .nil) (.node (o229_5 P) .nil .nil))) (.node (o53_2 P) (.node (o85_4 P) (.node (o149_4 P) .nil .nil) (.node (o213_5 P) .nil .nil)) (.node (o117_4 P) (.node (o181_5 P) .nil .nil) .nil))) (.node (o29_1 P) (.node (o45_2 P) (.node (o77_4 P) (.node (o141_4 P) .nil .nil) (.node (o205_5 P) .nil .nil)) (.node (o109_4 P) (.node (o173_5 P) .nil .nil) (.node (o237_5 P) .nil .nil))) (.node (o61_3 P) (.node (o93_4 P) (.node (o157_4 P) .nil .nil) (.node (o221_5 P) .nil .nil)) (.node (o125_4 P) (.node (o189_5 P) .nil .nil) .nil)))))) (.node (o2_1 P) (.node (PySem.W.boot_o_4 P) (.node (PySem.W.boot_o_8 P) (.node (o16_1 P) (.node (o32_1 P) (.node (o64_3 P) (.node (o128_4 P) .nil .nil) (.node (o192_5 P) .nil .nil)) (.node (o96_4 P) (.node (o160_5 P) .nil .nil) (.node (o224_5 P) .nil .nil))) (.node (o48_2 P) (.node (o80_4 P) (.node (o144_4 P) .nil .nil) (.node (o208_5 P) .nil .nil)) (.node (o112_4 P) (.node (o176_5 P) .nil .nil) (.node (o240_5 P) .nil .nil)))) (.node (o24_1 P) (.node (o40_2 P) (.node (o72_4 P) (.node (o136_4 P) .nil .nil) (.node (o200_5 P) .nil .nil)) (.node (o104_4 P) (.node (o168_5 P) .nil .nil) (.node (o232_5 P) .nil .nil))) (.node (o56_3 P) (.node (o88_4 P) (.node (o152_4 P) .nil .nil) (.node (o216_5 P) .nil .nil)) (.node (o120_4 P) (.node (o184_5 P) .nil .nil) .nil)))) (.node (o12_5 P) (.node (o20_1 P) (.node (o36_2 P) (.node (o68_4 P) (.node (o132_4 P) .nil .nil) (.node (o196_5 P) .nil .nil)) (.node (o100_4 P) (.node (o164_5 P) .nil .nil) (.node (o228_5 P) .nil .nil))) (.node (o52_2 P) (.node (o84_4 P) (.node (o148_4 P) .nil .nil) (.node (o212_5 P) .nil .nil)) (.node (o116_4 P) (.node (o180_5 P) .nil .nil) (.node (o244_5 P) .nil .nil)))) (.node (o28_1 P) (.node (o44_2 P) (.node (o76_4 P) (.node (o140_4 P) .nil .nil) (.node (o204_5 P) .nil .nil)) (.node (o108_4 P) (.node (o172_5 P) .nil .nil) (.node (o236_5 P) .nil .nil))) (.node (o60_3 P) (.node (o92_4 P) (.node (o156_4 P) .nil .nil) (.node (o220_5 P) .nil .nil)) (.node (o124_4 P) (.node (o188_5 P) .nil .nil) .nil))))) (.node (PySem.W.boot_o_6 P) (.node (PySem.W.boot_o_10 P) (.node (o18_1 P) (.node (o34_1 P) (.node (o66_3 P) (.node (o130_4 P) .nil .nil) (.node (o194_5 P) .nil .nil)) (.node (o98_4 P) (.node (o162_5 P) .nil .nil) (.node (o226_5 P) .nil .nil))) (.node (o50_2 P) (.node (o82_4 P) (.node (o146_4 P) .nil .nil) (.node (o210_5 P) .nil .nil)) (.node (o114_4 P) (.node (o178_5 P) .nil .nil) (.node (o242_5 P) .nil .nil)))) (.node (o26_1 P) (.node (o42_2 P) (.node (o74_4 P) (.node (o138_4 P) .nil .nil) (.node (o202_5 P) .nil .nil)) (.node (o106_4 P) (.node (o170_5 P) .nil .nil) (.node (o234_5 P) .nil .nil))) (.node (o58_3 P) (.node (o90_4 P) (.node (o154_4 P) .nil .nil) (.node (o218_5 P) .nil .nil)) (.node (o122_4 P) (.node (o186_5 P) .nil .nil) .nil)))) (.node (o14a P) (.node (o22_1 P) (.node (o38_2 P) (.node (o70_4 P) (.node (o134_4 P) .nil .nil) (.node (o198_5 P) .nil .nil)) (.node (o102_4 P) (.node (o166_5 P) .nil .nil) (.node (o230_5 P) .nil .nil))) (.node (o54_3 P) (.node (o86_4 P) (.node (o150_4 P) .nil .nil) (.node (o214_5 P) .nil .nil)) (.node (o118_4 P) (.node (o182_5 P) .nil .nil) .nil))) (.node (o30_1 P) (.node (o46_2 P) (.node (o78_4 P) (.node (o142_4 P) .nil .nil) (.node (o206_5 P) .nil .nil)) (.node (o110_4 P) (.node (o174_5 P) .nil .nil) (.node (o238_5 P) .nil .nil))) (.node (o62_3 P) (.node (o94_4 P) (.node (o158_4 P) .nil .nil) (.node (o222_5 P) .nil .nil)) (.node (o126_4 P) (.node (o190_5 P) .nil .nil) .nil)))))))
noncomputable abbrev S5 (w : World) (os : OsState) : SharedT := ⟨tree5 w.params,245,life0,⟨[]⟩,PySem.W.boot_drawn,502,os⟩
noncomputable def sts5 : List Stmt := [T 22,T 23,T 24,T 25,T 26,T 27,T 28,T 29,T 30,T 31,T 32,T 33,T 34,T 35]
theorem pc5 (w : World) (os : OsState) : segRunT treeTable PT w 11 ann0 1 384 (S4 w os) (piecesOf sts5 env0 cE ⟨30, 0, 83, 16⟩ [topFrame q0]) = some (.next, S5 w os, cE, ⟨135, 0, 136, 65⟩) := by
  rw [show @segRunT = _ from PySem.W.Fast.te10110043849684766642, show @treeTable = _ from PySem.W.Fast.te14364793385576792824]
  delta piecesOf
  rw [show @execs = _ from PySem.W.Fast.te12563942051412417395]
  kernel_rfl
noncomputable def o3_6 (P : Params) : Obj := ⟨(.type "dict"),none,(.dict ⟨[⟨(PyData.keyHash P z37),(.str z37 165),(.str z6 578)⟩,⟨(PyData.keyHash P z17),(.str z17 166),.none⟩,⟨(PyData.keyHash P z21),(.str z21 167),.none⟩,⟨(PyData.keyHash P z23),(.str z23 168),(.builtin "__main__.__loader__#opaque")⟩,⟨(PyData.keyHash P z38),(.str z38 169),.none⟩,⟨(PyData.keyHash P z11),(.str z11 170),(.ref 6)⟩,⟨(PyData.keyHash P z15),(.str z15 171),(.ref 4)⟩,⟨(PyData.keyHash P z34),(.str z34 173),(.str z1 172)⟩,⟨(PyData.keyHash P z27),(.str z27 174),.none⟩,⟨(PyData.keyHash P z41),(.str z41 193),(.ref 21)⟩,⟨(PyData.keyHash P z4),(.str z4 215),(.ref 31)⟩,⟨(PyData.keyHash P z10),(.str z10 240),(.ref 51)⟩,⟨(PyData.keyHash P (sk [65,95,78,73,76])),(.str (sk [65,95,78,73,76]) 242),(.int (.ofNat 0) 241)⟩,⟨(PyData.keyHash P (sk [65,95,66,65,82])),(.str (sk [65,95,66,65,82]) 244),(.int (.ofNat 8) 243)⟩,⟨(PyData.keyHash P (sk [65,95,67,85,84])),(.str (sk [65,95,67,85,84]) 246),(.int (.ofNat 15) 245)⟩,⟨(PyData.keyHash P (sk [65,95,84,82,85,69])),(.str (sk [65,95,84,82,85,69]) 248),(.int (.ofNat 16) 247)⟩,⟨(PyData.keyHash P z50),(.str z50 250),(.int (.ofNat 25) 249)⟩,⟨(PyData.keyHash P (sk [70,95,68,79,84])),(.str (sk [70,95,68,79,84]) 252),(.int (.ofNat 0) 251)⟩,⟨(PyData.keyHash P z55),(.str z55 254),(.int (.ofNat 1) 253)⟩,⟨(PyData.keyHash P (sk [70,95,83,69,77,73])),(.str (sk [70,95,83,69,77,73]) 256),(.int (.ofNat 2) 255)⟩,⟨(PyData.keyHash P z56),(.str z56 258),(.int (.ofNat 3) 257)⟩,⟨(PyData.keyHash P (sk [70,95,78,79,84])),(.str (sk [70,95,78,79,84]) 260),(.int (.ofNat 4) 259)⟩,⟨(PyData.keyHash P (sk [70,95,78,69,67,75])),(.str (sk [70,95,78,69,67,75]) 262),(.int (.ofNat 5) 261)⟩,⟨(PyData.keyHash P z42),(.str z42 264),(.int (.ofNat 8) 263)⟩,⟨(PyData.keyHash P z57),(.str z57 266),(.int (.ofNat 9) 265)⟩,⟨(PyData.keyHash P z58),(.str z58 268),(.int (.ofNat 10) 267)⟩,⟨(PyData.keyHash P z59),(.str z59 270),(.int (.ofNat 16) 269)⟩,⟨(PyData.keyHash P z14),(.str z14 276),(.ref 60)⟩,⟨(PyData.keyHash P z7),(.str z7 282),(.ref 67)⟩,⟨(PyData.keyHash P z35),(.str z35 401),(.ref 154)⟩,⟨(PyData.keyHash P (sk [78,73,76])),(.str (sk [78,73,76]) 405),(.ref 159)⟩,⟨(PyData.keyHash P (sk [118,97,114])),(.str (sk [118,97,114]) 412),(.ref 166)⟩,⟨(PyData.keyHash P z49),(.str z49 419),(.ref 173)⟩,⟨(PyData.keyHash P z51),(.str z51 427),(.ref 180)⟩,⟨(PyData.keyHash P z30),(.str z30 437),(.ref 188)⟩,⟨(PyData.keyHash P z24),(.str z24 445),(.ref 195)⟩,⟨(PyData.keyHash P z25),(.str z25 452),(.ref 202)⟩,⟨(PyData.keyHash P z26),(.str z26 460),(.ref 209)⟩,⟨(PyData.keyHash P z31),(.str z31 467),(.ref 216)⟩,⟨(PyData.keyHash P z33),(.str z33 474),(.ref 223)⟩,⟨(PyData.keyHash P z20),(.str z20 485),(.ref 230)⟩,⟨(PyData.keyHash P z22),(.str z22 494),(.ref 237)⟩,⟨(PyData.keyHash P z16),(.str z16 501),(.ref 244)⟩,⟨(PyData.keyHash P z40),(.str z40 512),(.ref 251)⟩,⟨(PyData.keyHash P z9),(.str z9 519),(.ref 258)⟩,⟨(PyData.keyHash P z32),(.str z32 528),(.ref 265)⟩,⟨(PyData.keyHash P (sk [70,114,101,115,104])),(.str (sk [70,114,101,115,104]) 568),(.ref 290)⟩,⟨(PyData.keyHash P z28),(.str z28 577),(.ref 301)⟩]⟩ 48),⟨[]⟩⟩
noncomputable def o12_6 (P : Params) : Obj := ⟨.none,none,(.fields ⟨[(.int (.ofNat 1) 0),(.int (.ofNat 0) 0),(.ref 20),(.int (.ofNat 5) 0),(.int (.ofNat 0) 0),(.ref 27),(.int (.ofNat 7) 0),(.int (.ofNat 0) 0),(.ref 40),(.int (.ofNat 26) 0),(.int (.ofNat 0) 0),(.ref 59),(.int (.ofNat 28) 0),(.int (.ofNat 0) 0),(.ref 66),(.int (.ofNat 30) 0),(.int (.ofNat 0) 0),(.ref 73),(.int (.ofNat 86) 0),(.int (.ofNat 0) 0),(.ref 165),(.int (.ofNat 88) 0),(.int (.ofNat 0) 0),(.ref 172),(.int (.ofNat 90) 0),(.int (.ofNat 0) 0),(.ref 179),(.int (.ofNat 92) 0),(.int (.ofNat 0) 0),(.ref 187),(.int (.ofNat 97) 0),(.int (.ofNat 0) 0),(.ref 194),(.int (.ofNat 103) 0),(.int (.ofNat 0) 0),(.ref 201),(.int (.ofNat 105) 0),(.int (.ofNat 0) 0),(.ref 208),(.int (.ofNat 109) 0),(.int (.ofNat 0) 0),(.ref 215),(.int (.ofNat 113) 0),(.int (.ofNat 0) 0),(.ref 222),(.int (.ofNat 115) 0),(.int (.ofNat 0) 0),(.ref 229),(.int (.ofNat 128) 0),(.int (.ofNat 0) 0),(.ref 236),(.int (.ofNat 135) 0),(.int (.ofNat 0) 0),(.ref 243),(.int (.ofNat 137) 0),(.int (.ofNat 0) 0),(.ref 250),(.int (.ofNat 142) 0),(.int (.ofNat 0) 0),(.ref 257),(.int (.ofNat 144) 0),(.int (.ofNat 0) 0),(.ref 264),(.int (.ofNat 147) 0),(.int (.ofNat 0) 0),(.ref 271),(.int (.ofNat 156) 0),(.int (.ofNat 0) 0),(.ref 300)]⟩),⟨[]⟩⟩
noncomputable def o245_6 (P : Params) : Obj := ⟨(.type "tuple"),none,(.seq ⟨[]⟩ 0),⟨[]⟩⟩
noncomputable def o246_6 (P : Params) : Obj := ⟨.none,none,(.fields ⟨[]⟩),⟨[]⟩⟩
noncomputable def o247_6 (P : Params) : Obj := ⟨(.type "tuple"),none,(.seq ⟨[(.str (sk [115,121,109,98,111,108,115]) 505),(.str (sk [110,97,109,101]) 506),(.str (sk [112,97,114,116,115]) 507),(.str (sk [97,114,103,115]) 508),(.str (sk [112,97,114,116]) 509)]⟩ 0),⟨[]⟩⟩
noncomputable def o248_6 (P : Params) : Obj := ⟨(.type "tuple"),none,(.seq ⟨[]⟩ 0),⟨[]⟩⟩
noncomputable def o249_6 (P : Params) : Obj := ⟨.none,none,(.func ⟨z40,z40,fP (T 36),.stmts (fB (T 36)),fS (T 36),0,[],.none,.none,.none,.none,none,.none,.none,0⟩),⟨[]⟩⟩
noncomputable def o250_6 (P : Params) : Obj := ⟨(.type "code"),none,(.fields ⟨[(.str z40 502),(.str z40 503),(.str z1 504),(.int (.ofNat 137) 0),(.int (.ofNat 3) 0),(.int (.ofNat 0) 0),(.int (.ofNat 0) 0),(.int (.ofNat 3) 0),(.ref 245),(.bool true),(.int (.ofNat 181) 0),(.ref 246),.none,(.ref 247),(.ref 248),(.ref 249),(.int (.ofNat 510) 0),(.int (.ofNat 137) 0),(.str z1 511)]⟩),⟨[]⟩⟩
noncomputable def o251_6 (P : Params) : Obj := ⟨(.type "function"),none,(.func ⟨z40,z40,fP (T 36),.stmts (fB (T 36)),fS (T 36),3,[],.none,.none,.none,(.str z12 402),none,(.ref 250),.none,0⟩),⟨[]⟩⟩
noncomputable def o252_6 (P : Params) : Obj := ⟨(.type "tuple"),none,(.seq ⟨[]⟩ 0),⟨[]⟩⟩
noncomputable def o253_6 (P : Params) : Obj := ⟨.none,none,(.fields ⟨[]⟩),⟨[]⟩⟩
noncomputable def o254_6 (P : Params) : Obj := ⟨(.type "tuple"),none,(.seq ⟨[(.str (sk [115,121,109,98,111,108,115]) 516)]⟩ 0),⟨[]⟩⟩
noncomputable def o255_6 (P : Params) : Obj := ⟨(.type "tuple"),none,(.seq ⟨[]⟩ 0),⟨[]⟩⟩
noncomputable def o256_6 (P : Params) : Obj := ⟨.none,none,(.func ⟨z9,z9,fP (T 37),.stmts (fB (T 37)),fS (T 37),0,[],.none,.none,.none,.none,none,.none,.none,0⟩),⟨[]⟩⟩
noncomputable def o257_6 (P : Params) : Obj := ⟨(.type "code"),none,(.fields ⟨[(.str z9 513),(.str z9 514),(.str z1 515),(.int (.ofNat 142) 0),(.int (.ofNat 1) 0),(.int (.ofNat 0) 0),(.int (.ofNat 0) 0),(.int (.ofNat 3) 0),(.ref 252),(.bool true),(.int (.ofNat 181) 0),(.ref 253),.none,(.ref 254),(.ref 255),(.ref 256),(.int (.ofNat 517) 0),(.int (.ofNat 142) 0),(.str z1 518)]⟩),⟨[]⟩⟩
noncomputable def o258_6 (P : Params) : Obj := ⟨(.type "function"),none,(.func ⟨z9,z9,fP (T 37),.stmts (fB (T 37)),fS (T 37),3,[],.none,.none,.none,(.str z12 402),none,(.ref 257),.none,0⟩),⟨[]⟩⟩
noncomputable def o259_6 (P : Params) : Obj := ⟨(.type "tuple"),none,(.seq ⟨[]⟩ 0),⟨[]⟩⟩
noncomputable def o260_6 (P : Params) : Obj := ⟨.none,none,(.fields ⟨[]⟩),⟨[]⟩⟩
noncomputable def o261_6 (P : Params) : Obj := ⟨(.type "tuple"),none,(.seq ⟨[(.str (sk [115,121,109,98,111,108,115]) 523),(.str (sk [107,105,110,100]) 524),(.str (sk [99,117,108,112,114,105,116]) 525)]⟩ 0),⟨[]⟩⟩
noncomputable def o262_6 (P : Params) : Obj := ⟨(.type "tuple"),none,(.seq ⟨[]⟩ 0),⟨[]⟩⟩
noncomputable def o263_6 (P : Params) : Obj := ⟨.none,none,(.func ⟨z32,z32,fP (T 38),.stmts (fB (T 38)),fS (T 38),0,[],.none,.none,.none,.none,none,.none,.none,0⟩),⟨[]⟩⟩
noncomputable def o264_6 (P : Params) : Obj := ⟨(.type "code"),none,(.fields ⟨[(.str z32 520),(.str z32 521),(.str z1 522),(.int (.ofNat 144) 0),(.int (.ofNat 3) 0),(.int (.ofNat 0) 0),(.int (.ofNat 0) 0),(.int (.ofNat 3) 0),(.ref 259),(.bool true),(.int (.ofNat 181) 0),(.ref 260),.none,(.ref 261),(.ref 262),(.ref 263),(.int (.ofNat 526) 0),(.int (.ofNat 144) 0),(.str z1 527)]⟩),⟨[]⟩⟩
noncomputable def o265_6 (P : Params) : Obj := ⟨(.type "function"),none,(.func ⟨z32,z32,fP (T 38),.stmts (fB (T 38)),fS (T 38),3,[],.none,.none,.none,(.str z12 402),none,(.ref 264),.none,0⟩),⟨[]⟩⟩
noncomputable def o266_6 (P : Params) : Obj := ⟨(.type "tuple"),none,(.seq ⟨[]⟩ 0),⟨[]⟩⟩
noncomputable def o267_6 (P : Params) : Obj := ⟨(.type "builtin_function_or_method"),none,(.fields ⟨[(.builtin "type.__prepare__"),(.type "type")]⟩),⟨[]⟩⟩
noncomputable def o268_6 (P : Params) : Obj := ⟨(.type "dict"),none,(.dict ⟨[⟨(PyData.keyHash P z13),(.str z13 538),(.str z53 529)⟩,⟨(PyData.keyHash P z39),(.str z39 540),(.str (sk [70,114,101,115,104]) 539)⟩,⟨(PyData.keyHash P z5),(.str z5 542),(.int (.ofNat 147) 541)⟩,⟨(PyData.keyHash P z8),(.str z8 551),(.ref 280)⟩,⟨(PyData.keyHash P (sk [110,117,109,98,101,114])),(.str (sk [110,117,109,98,101,114]) 559),(.ref 287)⟩,⟨(PyData.keyHash P z3),(.str z3 561),(.ref 288)⟩]⟩ 6),⟨[]⟩⟩
noncomputable def o269_6 (P : Params) : Obj := ⟨(.type "tuple"),none,(.seq ⟨[]⟩ 0),⟨[]⟩⟩
noncomputable def o270_6 (P : Params) : Obj := ⟨.none,none,(.fields ⟨[(.int (.ofNat 149) 0),(.int (.ofNat 4) 0),(.ref 279),(.int (.ofNat 152) 0),(.int (.ofNat 4) 0),(.ref 286)]⟩),⟨[]⟩⟩
noncomputable def o271_6 (P : Params) : Obj := ⟨(.type "code"),none,(.fields ⟨[(.str (sk [70,114,101,115,104]) 533),(.str (sk [70,114,101,115,104]) 534),(.str z1 535),(.int (.ofNat 147) 0),(.int (.ofNat 0) 0),(.int (.ofNat 0) 0),(.int (.ofNat 0) 0),(.int (.ofNat 0) 0),(.ref 269),(.bool false),(.int (.ofNat 181) 0),(.ref 270),.none,.none,.none,.none,(.int (.ofNat 536) 0),(.int (.ofNat 147) 0),(.str z1 537)]⟩),⟨[]⟩⟩
noncomputable def o272_6 (P : Params) : Obj := ⟨(.type "frame"),none,.plain,⟨[(some (.ref 271)),(some (.ref 3)),(some (.ref 268)),none,(some (.str z53 529)),none,(some (.ref 0))]⟩⟩
noncomputable def o273_6 (P : Params) : Obj := ⟨(.type "tuple"),none,(.seq ⟨[(.int (.ofNat 0) 543)]⟩ 0),⟨[]⟩⟩
noncomputable def o274_6 (P : Params) : Obj := ⟨(.type "tuple"),none,(.seq ⟨[]⟩ 0),⟨[]⟩⟩
noncomputable def o275_6 (P : Params) : Obj := ⟨.none,none,(.fields ⟨[]⟩),⟨[]⟩⟩
noncomputable def o276_6 (P : Params) : Obj := ⟨(.type "tuple"),none,(.seq ⟨[(.str (sk [115,101,108,102]) 547),(.str (sk [102,105,114,115,116]) 548)]⟩ 0),⟨[]⟩⟩
noncomputable def o277_6 (P : Params) : Obj := ⟨(.type "tuple"),none,(.seq ⟨[]⟩ 0),⟨[]⟩⟩
noncomputable def o278_6 (P : Params) : Obj := ⟨.none,none,(.func ⟨z8,(sk [70,114,101,115,104,46,95,95,105,110,105,116,95,95]),fP (TM 40 0),.stmts (fB (TM 40 0)),fS (TM 40 0),0,[],.none,.none,.none,.none,none,.none,.none,0⟩),⟨[]⟩⟩
noncomputable def o279_6 (P : Params) : Obj := ⟨(.type "code"),none,(.fields ⟨[(.str z8 544),(.str (sk [70,114,101,115,104,46,95,95,105,110,105,116,95,95]) 545),(.str z1 546),(.int (.ofNat 149) 0),(.int (.ofNat 2) 0),(.int (.ofNat 0) 0),(.int (.ofNat 0) 0),(.int (.ofNat 3) 0),(.ref 274),(.bool true),(.int (.ofNat 181) 0),(.ref 275),.none,(.ref 276),(.ref 277),(.ref 278),(.int (.ofNat 549) 0),(.int (.ofNat 149) 0),(.str z1 550)]⟩),⟨[]⟩⟩
noncomputable def o280_6 (P : Params) : Obj := ⟨(.type "function"),none,(.func ⟨z8,(sk [70,114,101,115,104,46,95,95,105,110,105,116,95,95]),fP (TM 40 0),.stmts (fB (TM 40 0)),fS (TM 40 0),3,[],(.ref 273),.none,.none,(.str z53 529),none,(.ref 279),.none,0⟩),⟨[]⟩⟩
noncomputable def o281_6 (P : Params) : Obj := ⟨(.type "tuple"),none,(.seq ⟨[]⟩ 0),⟨[]⟩⟩
noncomputable def o282_6 (P : Params) : Obj := ⟨.none,none,(.fields ⟨[]⟩),⟨[]⟩⟩
noncomputable def o283_6 (P : Params) : Obj := ⟨(.type "tuple"),none,(.seq ⟨[(.str (sk [115,101,108,102]) 555),(.str (sk [110]) 556)]⟩ 0),⟨[]⟩⟩
noncomputable def o284_6 (P : Params) : Obj := ⟨(.type "tuple"),none,(.seq ⟨[]⟩ 0),⟨[]⟩⟩
noncomputable def o285_6 (P : Params) : Obj := ⟨.none,none,(.func ⟨(sk [110,117,109,98,101,114]),(sk [70,114,101,115,104,46,110,117,109,98,101,114]),fP (TM 40 1),.stmts (fB (TM 40 1)),fS (TM 40 1),0,[],.none,.none,.none,.none,none,.none,.none,0⟩),⟨[]⟩⟩
noncomputable def o286_6 (P : Params) : Obj := ⟨(.type "code"),none,(.fields ⟨[(.str (sk [110,117,109,98,101,114]) 552),(.str (sk [70,114,101,115,104,46,110,117,109,98,101,114]) 553),(.str z1 554),(.int (.ofNat 152) 0),(.int (.ofNat 1) 0),(.int (.ofNat 0) 0),(.int (.ofNat 0) 0),(.int (.ofNat 3) 0),(.ref 281),(.bool true),(.int (.ofNat 181) 0),(.ref 282),.none,(.ref 283),(.ref 284),(.ref 285),(.int (.ofNat 557) 0),(.int (.ofNat 152) 0),(.str z1 558)]⟩),⟨[]⟩⟩
noncomputable def o287_6 (P : Params) : Obj := ⟨(.type "function"),none,(.func ⟨(sk [110,117,109,98,101,114]),(sk [70,114,101,115,104,46,110,117,109,98,101,114]),fP (TM 40 1),.stmts (fB (TM 40 1)),fS (TM 40 1),3,[],.none,.none,.none,(.str z53 529),none,(.ref 286),.none,0⟩),⟨[]⟩⟩
noncomputable def o288_6 (P : Params) : Obj := ⟨(.type "tuple"),none,(.seq ⟨[(.str (sk [110,101,120,116]) 560)]⟩ 0),⟨[]⟩⟩
noncomputable def o289_6 (P : Params) : Obj := ⟨(.type "dict"),none,(.dict ⟨[⟨(PyData.keyHash P z13),(.str z13 538),(.str z53 529)⟩,⟨(PyData.keyHash P z5),(.str z5 542),(.int (.ofNat 147) 541)⟩,⟨(PyData.keyHash P z8),(.str z8 551),(.ref 280)⟩,⟨(PyData.keyHash P (sk [110,117,109,98,101,114])),(.str (sk [110,117,109,98,101,114]) 559),(.ref 287)⟩,⟨(PyData.keyHash P z3),(.str z3 561),(.ref 288)⟩,⟨(PyData.keyHash P z60),(.str z60 563),(.ref 291)⟩,⟨(PyData.keyHash P z29),(.str z29 565),(.ref 292)⟩,⟨(PyData.keyHash P z17),(.str z17 566),.none⟩]⟩ 4),⟨[]⟩⟩
noncomputable def o290_6 (P : Params) : Obj := ⟨(.type "type"),none,(.cls ⟨(sk [70,114,101,115,104]),[(.type "object")],[(.ref 290),(.type "object")],289,(sk [70,114,101,115,104]),true,[],[],false,none,false⟩),⟨[none,none,(some (.str (sk [70,114,101,115,104]) 531)),(some (.str (sk [70,114,101,115,104]) 539)),(some (.builtin "object.__new__")),(some (.bool true))]⟩⟩
noncomputable def o291_6 (P : Params) : Obj := ⟨(.type "getset_descriptor"),none,(.fields ⟨[(.str z60 562),(.ref 290),(.builtin "function.__dict__"),(.builtin "function.__dict__#set")]⟩),⟨[]⟩⟩
noncomputable def o292_6 (P : Params) : Obj := ⟨(.type "getset_descriptor"),none,(.fields ⟨[(.str z29 564),(.ref 290),(.builtin "ExceptionGroup.__weakref__"),.none]⟩),⟨[]⟩⟩
noncomputable def o293_6 (P : Params) : Obj := ⟨(.type "super"),none,(.fields ⟨[(.ref 290),(.ref 290),(.ref 290)]⟩),⟨[]⟩⟩
noncomputable def o294_6 (P : Params) : Obj := ⟨(.type "builtin_function_or_method"),none,(.fields ⟨[(.builtin "object.__init_subclass__"),(.ref 290)]⟩),⟨[]⟩⟩
noncomputable def o295_6 (P : Params) : Obj := ⟨(.type "tuple"),none,(.seq ⟨[]⟩ 0),⟨[]⟩⟩
noncomputable def o296_6 (P : Params) : Obj := ⟨.none,none,(.fields ⟨[]⟩),⟨[]⟩⟩
noncomputable def o297_6 (P : Params) : Obj := ⟨(.type "tuple"),none,(.seq ⟨[(.str (sk [116,101,114,109]) 572),(.str (sk [102,117,110,99,116,111,114,115]) 573),(.str (sk [112,97,114,116,115]) 574)]⟩ 0),⟨[]⟩⟩
noncomputable def o298_6 (P : Params) : Obj := ⟨(.type "tuple"),none,(.seq ⟨[]⟩ 0),⟨[]⟩⟩
noncomputable def o299_6 (P : Params) : Obj := ⟨.none,none,(.func ⟨z28,z28,fP (T 41),.stmts (fB (T 41)),fS (T 41),0,[],.none,.none,.none,.none,none,.none,.none,0⟩),⟨[]⟩⟩
noncomputable def o300_6 (P : Params) : Obj := ⟨(.type "code"),none,(.fields ⟨[(.str z28 569),(.str z28 570),(.str z1 571),(.int (.ofNat 156) 0),(.int (.ofNat 2) 0),(.int (.ofNat 0) 0),(.int (.ofNat 0) 0),(.int (.ofNat 3) 0),(.ref 295),(.bool true),(.int (.ofNat 181) 0),(.ref 296),.none,(.ref 297),(.ref 298),(.ref 299),(.int (.ofNat 575) 0),(.int (.ofNat 156) 0),(.str z1 576)]⟩),⟨[]⟩⟩
noncomputable def o301_6 (P : Params) : Obj := ⟨(.type "function"),none,(.func ⟨z28,z28,fP (T 41),.stmts (fB (T 41)),fS (T 41),3,[],.none,.none,.none,(.str z53 529),none,(.ref 300),.none,0⟩),⟨[]⟩⟩
noncomputable def tree6 (P : Params) : BT := (.node (PySem.W.boot_o_0 P) (.node (PySem.W.boot_o_1 P) (.node (o3_6 P) (.node (PySem.W.boot_o_7 P) (.node (o15_1 P) (.node (o31_2 P) (.node (o63_3 P) (.node (o127_4 P) (.node (o255_6 P) .nil .nil) .nil) (.node (o191_5 P) .nil .nil)) (.node (o95_4 P) (.node (o159_5 P) (.node (o287_6 P) .nil .nil) .nil) (.node (o223_5 P) .nil .nil))) (.node (o47_2 P) (.node (o79_4 P) (.node (o143_4 P) (.node (o271_6 P) .nil .nil) .nil) (.node (o207_5 P) .nil .nil)) (.node (o111_4 P) (.node (o175_5 P) .nil .nil) (.node (o239_5 P) .nil .nil)))) (.node (o23_1 P) (.node (o39_2 P) (.node (o71_4 P) (.node (o135_4 P) (.node (o263_6 P) .nil .nil) .nil) (.node (o199_5 P) .nil .nil)) (.node (o103_4 P) (.node (o167_5 P) (.node (o295_6 P) .nil .nil) .nil) (.node (o231_5 P) .nil .nil))) (.node (o55_3 P) (.node (o87_4 P) (.node (o151_4 P) (.node (o279_6 P) .nil .nil) .nil) (.node (o215_5 P) .nil .nil)) (.node (o119_4 P) (.node (o183_5 P) .nil .nil) (.node (o247_6 P) .nil .nil))))) (.node (o11a P) (.node (o19_1 P) (.node (o35_2 P) (.node (o67_3 P) (.node (o131_4 P) (.node (o259_6 P) .nil .nil) .nil) (.node (o195_5 P) .nil .nil)) (.node (o99_4 P) (.node (o163_5 P) (.node (o291_6 P) .nil .nil) .nil) (.node (o227_5 P) .nil .nil))) (.node (o51_2 P) (.node (o83_4 P) (.node (o147_4 P) (.node (o275_6 P) .nil .nil) .nil) (.node (o211_5 P) .nil .nil)) (.node (o115_4 P) (.node (o179_5 P) .nil .nil) (.node (o243_5 P) .nil .nil)))) (.node (o27_1 P) (.node (o43_2 P) (.node (o75_4 P) (.node (o139_4 P) (.node (o267_6 P) .nil .nil) .nil) (.node (o203_5 P) .nil .nil)) (.node (o107_4 P) (.node (o171_5 P) (.node (o299_6 P) .nil .nil) .nil) (.node (o235_5 P) .nil .nil))) (.node (o59_3 P) (.node (o91_4 P) (.node (o155_4 P) (.node (o283_6 P) .nil .nil) .nil) (.node (o219_5 P) .nil .nil)) (.node (o123_4 P) (.node (o187_5 P) .nil .nil) (.node (o251_6 P) .nil .nil)))))) (.node (PySem.W.boot_o_5 P) (.node (PySem.W.boot_o_9 P) (.node (o17_1 P) (.node (o33_1 P) (.node (o65_3 P) (.node (o129_4 P) (.node (o257_6 P) .nil .nil) .nil) (.node (o193_5 P) .nil .nil)) (.node (o97_4 P) (.node (o161_5 P) (.node (o289_6 P) .nil .nil) .nil) (.node (o225_5 P) .nil .nil))) (.node (o49_2 P) (.node (o81_4 P) (.node (o145_4 P) (.node (o273_6 P) .nil .nil) .nil) (.node (o209_5 P) .nil .nil)) (.node (o113_4 P) (.node (o177_5 P) .nil .nil) (.node (o241_5 P) .nil .nil)))) (.node (o25_1 P) (.node (o41_2 P) (.node (o73_4 P) (.node (o137_4 P) (.node (o265_6 P) .nil .nil) .nil) (.node (o201_5 P) .nil .nil)) (.node (o105_4 P) (.node (o169_5 P) (.node (o297_6 P) .nil .nil) .nil) (.node (o233_5 P) .nil .nil))) (.node (o57_3 P) (.node (o89_4 P) (.node (o153_4 P) (.node (o281_6 P) .nil .nil) .nil) (.node (o217_5 P) .nil .nil)) (.node (o121_4 P) (.node (o185_5 P) .nil .nil) (.node (o249_6 P) .nil .nil))))) (.node (o13a P) (.node (o21_1 P) (.node (o37_2 P) (.node (o69_4 P) (.node (o133_4 P) (.node (o261_6 P) .nil .nil) .nil) (.node (o197_5 P) .nil .nil)) (.node (o101_4 P) (.node (o165_5 P) (.node (o293_6 P) .nil .nil) .nil) (.node (o229_5 P) .nil .nil))) (.node (o53_2 P) (.node (o85_4 P) (.node (o149_4 P) (.node (o277_6 P) .nil .nil) .nil) (.node (o213_5 P) .nil .nil)) (.node (o117_4 P) (.node (o181_5 P) .nil .nil) (.node (o245_6 P) .nil .nil)))) (.node (o29_1 P) (.node (o45_2 P) (.node (o77_4 P) (.node (o141_4 P) (.node (o269_6 P) .nil .nil) .nil) (.node (o205_5 P) .nil .nil)) (.node (o109_4 P) (.node (o173_5 P) (.node (o301_6 P) .nil .nil) .nil) (.node (o237_5 P) .nil .nil))) (.node (o61_3 P) (.node (o93_4 P) (.node (o157_4 P) (.node (o285_6 P) .nil .nil) .nil) (.node (o221_5 P) .nil .nil)) (.node (o125_4 P) (.node (o189_5 P) .nil .nil) (.node (o253_6 P) .nil .nil))))))) (.node (o2_1 P) (.node (PySem.W.boot_o_4 P) (.node (PySem.W.boot_o_8 P) (.node (o16_1 P) (.node (o32_1 P) (.node (o64_3 P) (.node (o128_4 P) (.node (o256_6 P) .nil .nil) .nil) (.node (o192_5 P) .nil .nil)) (.node (o96_4 P) (.node (o160_5 P) (.node (o288_6 P) .nil .nil) .nil) (.node (o224_5 P) .nil .nil))) (.node (o48_2 P) (.node (o80_4 P) (.node (o144_4 P) (.node (o272_6 P) .nil .nil) .nil) (.node (o208_5 P) .nil .nil)) (.node (o112_4 P) (.node (o176_5 P) .nil .nil) (.node (o240_5 P) .nil .nil)))) (.node (o24_1 P) (.node (o40_2 P) (.node (o72_4 P) (.node (o136_4 P) (.node (o264_6 P) .nil .nil) .nil) (.node (o200_5 P) .nil .nil)) (.node (o104_4 P) (.node (o168_5 P) (.node (o296_6 P) .nil .nil) .nil) (.node (o232_5 P) .nil .nil))) (.node (o56_3 P) (.node (o88_4 P) (.node (o152_4 P) (.node (o280_6 P) .nil .nil) .nil) (.node (o216_5 P) .nil .nil)) (.node (o120_4 P) (.node (o184_5 P) .nil .nil) (.node (o248_6 P) .nil .nil))))) (.node (o12_6 P) (.node (o20_1 P) (.node (o36_2 P) (.node (o68_4 P) (.node (o132_4 P) (.node (o260_6 P) .nil .nil) .nil) (.node (o196_5 P) .nil .nil)) (.node (o100_4 P) (.node (o164_5 P) (.node (o292_6 P) .nil .nil) .nil) (.node (o228_5 P) .nil .nil))) (.node (o52_2 P) (.node (o84_4 P) (.node (o148_4 P) (.node (o276_6 P) .nil .nil) .nil) (.node (o212_5 P) .nil .nil)) (.node (o116_4 P) (.node (o180_5 P) .nil .nil) (.node (o244_5 P) .nil .nil)))) (.node (o28_1 P) (.node (o44_2 P) (.node (o76_4 P) (.node (o140_4 P) (.node (o268_6 P) .nil .nil) .nil) (.node (o204_5 P) .nil .nil)) (.node (o108_4 P) (.node (o172_5 P) (.node (o300_6 P) .nil .nil) .nil) (.node (o236_5 P) .nil .nil))) (.node (o60_3 P) (.node (o92_4 P) (.node (o156_4 P) (.node (o284_6 P) .nil .nil) .nil) (.node (o220_5 P) .nil .nil)) (.node (o124_4 P) (.node (o188_5 P) .nil .nil) (.node (o252_6 P) .nil .nil)))))) (.node (PySem.W.boot_o_6 P) (.node (PySem.W.boot_o_10 P) (.node (o18_1 P) (.node (o34_1 P) (.node (o66_3 P) (.node (o130_4 P) (.node (o258_6 P) .nil .nil) .nil) (.node (o194_5 P) .nil .nil)) (.node (o98_4 P) (.node (o162_5 P) (.node (o290_6 P) .nil .nil) .nil) (.node (o226_5 P) .nil .nil))) (.node (o50_2 P) (.node (o82_4 P) (.node (o146_4 P) (.node (o274_6 P) .nil .nil) .nil) (.node (o210_5 P) .nil .nil)) (.node (o114_4 P) (.node (o178_5 P) .nil .nil) (.node (o242_5 P) .nil .nil)))) (.node (o26_1 P) (.node (o42_2 P) (.node (o74_4 P) (.node (o138_4 P) (.node (o266_6 P) .nil .nil) .nil) (.node (o202_5 P) .nil .nil)) (.node (o106_4 P) (.node (o170_5 P) (.node (o298_6 P) .nil .nil) .nil) (.node (o234_5 P) .nil .nil))) (.node (o58_3 P) (.node (o90_4 P) (.node (o154_4 P) (.node (o282_6 P) .nil .nil) .nil) (.node (o218_5 P) .nil .nil)) (.node (o122_4 P) (.node (o186_5 P) .nil .nil) (.node (o250_6 P) .nil .nil))))) (.node (o14a P) (.node (o22_1 P) (.node (o38_2 P) (.node (o70_4 P) (.node (o134_4 P) (.node (o262_6 P) .nil .nil) .nil) (.node (o198_5 P) .nil .nil)) (.node (o102_4 P) (.node (o166_5 P) (.node (o294_6 P) .nil .nil) .nil) (.node (o230_5 P) .nil .nil))) (.node (o54_3 P) (.node (o86_4 P) (.node (o150_4 P) (.node (o278_6 P) .nil .nil) .nil) (.node (o214_5 P) .nil .nil)) (.node (o118_4 P) (.node (o182_5 P) .nil .nil) (.node (o246_6 P) .nil .nil)))) (.node (o30_1 P) (.node (o46_2 P) (.node (o78_4 P) (.node (o142_4 P) (.node (o270_6 P) .nil .nil) .nil) (.node (o206_5 P) .nil .nil)) (.node (o110_4 P) (.node (o174_5 P) .nil .nil) (.node (o238_5 P) .nil .nil))) (.node (o62_3 P) (.node (o94_4 P) (.node (o158_4 P) (.node (o286_6 P) .nil .nil) .nil) (.node (o222_5 P) .nil .nil)) (.node (o126_4 P) (.node (o190_5 P) .nil .nil) (.node (o254_6 P) .nil .nil))))))))
noncomputable abbrev S6 (w : World) (os : OsState) : SharedT := ⟨tree6 w.params,302,life0,⟨[]⟩,PySem.W.boot_drawn,580,os⟩
noncomputable def sts6 : List Stmt := [T 36,T 37,T 38,T 39,T 40,T 41,T 42]
theorem pc6 (w : World) (os : OsState) : segRunT treeTable PT w 11 ann0 1 399 (S5 w os) (piecesOf sts6 env0 cE ⟨135, 0, 136, 65⟩ [topFrame q0]) = some (.next, S6 w os, cE, ⟨163, 0, 163, 8⟩) := by
  rw [show @segRunT = _ from PySem.W.Fast.te10110043849684766642, show @treeTable = _ from PySem.W.Fast.te14364793385576792824]
  delta piecesOf
  rw [show @execs = _ from PySem.W.Fast.te12563942051412417395]
  kernel_rfl
noncomputable def o3_7 (P : Params) : Obj := ⟨(.type "dict"),none,(.dict ⟨[⟨(PyData.keyHash P z37),(.str z37 165),(.str z6 578)⟩,⟨(PyData.keyHash P z17),(.str z17 166),.none⟩,⟨(PyData.keyHash P z21),(.str z21 167),.none⟩,⟨(PyData.keyHash P z23),(.str z23 168),(.builtin "__main__.__loader__#opaque")⟩,⟨(PyData.keyHash P z38),(.str z38 169),.none⟩,⟨(PyData.keyHash P z11),(.str z11 170),(.ref 6)⟩,⟨(PyData.keyHash P z15),(.str z15 171),(.ref 4)⟩,⟨(PyData.keyHash P z34),(.str z34 173),(.str z1 172)⟩,⟨(PyData.keyHash P z27),(.str z27 174),.none⟩,⟨(PyData.keyHash P z41),(.str z41 193),(.ref 21)⟩,⟨(PyData.keyHash P z4),(.str z4 215),(.ref 31)⟩,⟨(PyData.keyHash P z10),(.str z10 240),(.ref 51)⟩,⟨(PyData.keyHash P (sk [65,95,78,73,76])),(.str (sk [65,95,78,73,76]) 242),(.int (.ofNat 0) 241)⟩,⟨(PyData.keyHash P (sk [65,95,66,65,82])),(.str (sk [65,95,66,65,82]) 244),(.int (.ofNat 8) 243)⟩,⟨(PyData.keyHash P (sk [65,95,67,85,84])),(.str (sk [65,95,67,85,84]) 246),(.int (.ofNat 15) 245)⟩,⟨(PyData.keyHash P (sk [65,95,84,82,85,69])),(.str (sk [65,95,84,82,85,69]) 248),(.int (.ofNat 16) 247)⟩,⟨(PyData.keyHash P z50),(.str z50 250),(.int (.ofNat 25) 249)⟩,⟨(PyData.keyHash P (sk [70,95,68,79,84])),(.str (sk [70,95,68,79,84]) 252),(.int (.ofNat 0) 251)⟩,⟨(PyData.keyHash P z55),(.str z55 254),(.int (.ofNat 1) 253)⟩,⟨(PyData.keyHash P (sk [70,95,83,69,77,73])),(.str (sk [70,95,83,69,77,73]) 256),(.int (.ofNat 2) 255)⟩,⟨(PyData.keyHash P z56),(.str z56 258),(.int (.ofNat 3) 257)⟩,⟨(PyData.keyHash P (sk [70,95,78,79,84])),(.str (sk [70,95,78,79,84]) 260),(.int (.ofNat 4) 259)⟩,⟨(PyData.keyHash P (sk [70,95,78,69,67,75])),(.str (sk [70,95,78,69,67,75]) 262),(.int (.ofNat 5) 261)⟩,⟨(PyData.keyHash P z42),(.str z42 264),(.int (.ofNat 8) 263)⟩,⟨(PyData.keyHash P z57),(.str z57 266),(.int (.ofNat 9) 265)⟩,⟨(PyData.keyHash P z58),(.str z58 268),(.int (.ofNat 10) 267)⟩,⟨(PyData.keyHash P z59),(.str z59 270),(.int (.ofNat 16) 269)⟩,⟨(PyData.keyHash P z14),(.str z14 276),(.ref 60)⟩,⟨(PyData.keyHash P z7),(.str z7 282),(.ref 67)⟩,⟨(PyData.keyHash P z35),(.str z35 401),(.ref 154)⟩,⟨(PyData.keyHash P (sk [78,73,76])),(.str (sk [78,73,76]) 405),(.ref 159)⟩,⟨(PyData.keyHash P (sk [118,97,114])),(.str (sk [118,97,114]) 412),(.ref 166)⟩,⟨(PyData.keyHash P z49),(.str z49 419),(.ref 173)⟩,⟨(PyData.keyHash P z51),(.str z51 427),(.ref 180)⟩,⟨(PyData.keyHash P z30),(.str z30 437),(.ref 188)⟩,⟨(PyData.keyHash P z24),(.str z24 445),(.ref 195)⟩,⟨(PyData.keyHash P z25),(.str z25 452),(.ref 202)⟩,⟨(PyData.keyHash P z26),(.str z26 460),(.ref 209)⟩,⟨(PyData.keyHash P z31),(.str z31 467),(.ref 216)⟩,⟨(PyData.keyHash P z33),(.str z33 474),(.ref 223)⟩,⟨(PyData.keyHash P z20),(.str z20 485),(.ref 230)⟩,⟨(PyData.keyHash P z22),(.str z22 494),(.ref 237)⟩,⟨(PyData.keyHash P z16),(.str z16 501),(.ref 244)⟩,⟨(PyData.keyHash P z40),(.str z40 512),(.ref 251)⟩,⟨(PyData.keyHash P z9),(.str z9 519),(.ref 258)⟩,⟨(PyData.keyHash P z32),(.str z32 528),(.ref 265)⟩,⟨(PyData.keyHash P (sk [70,114,101,115,104])),(.str (sk [70,114,101,115,104]) 568),(.ref 290)⟩,⟨(PyData.keyHash P z28),(.str z28 577),(.ref 301)⟩,⟨(PyData.keyHash P z19),(.str z19 618),(.ref 325)⟩,⟨(PyData.keyHash P z18),(.str z18 637),(.ref 336)⟩,⟨(PyData.keyHash P z36),(.str z36 649),(.ref 343)⟩,⟨(PyData.keyHash P z47),(.str z47 661),(.ref 350)⟩]⟩ 52),⟨[]⟩⟩
noncomputable def o12_7 (P : Params) : Obj := ⟨.none,none,(.fields ⟨[(.int (.ofNat 1) 0),(.int (.ofNat 0) 0),(.ref 20),(.int (.ofNat 5) 0),(.int (.ofNat 0) 0),(.ref 27),(.int (.ofNat 7) 0),(.int (.ofNat 0) 0),(.ref 40),(.int (.ofNat 26) 0),(.int (.ofNat 0) 0),(.ref 59),(.int (.ofNat 28) 0),(.int (.ofNat 0) 0),(.ref 66),(.int (.ofNat 30) 0),(.int (.ofNat 0) 0),(.ref 73),(.int (.ofNat 86) 0),(.int (.ofNat 0) 0),(.ref 165),(.int (.ofNat 88) 0),(.int (.ofNat 0) 0),(.ref 172),(.int (.ofNat 90) 0),(.int (.ofNat 0) 0),(.ref 179),(.int (.ofNat 92) 0),(.int (.ofNat 0) 0),(.ref 187),(.int (.ofNat 97) 0),(.int (.ofNat 0) 0),(.ref 194),(.int (.ofNat 103) 0),(.int (.ofNat 0) 0),(.ref 201),(.int (.ofNat 105) 0),(.int (.ofNat 0) 0),(.ref 208),(.int (.ofNat 109) 0),(.int (.ofNat 0) 0),(.ref 215),(.int (.ofNat 113) 0),(.int (.ofNat 0) 0),(.ref 222),(.int (.ofNat 115) 0),(.int (.ofNat 0) 0),(.ref 229),(.int (.ofNat 128) 0),(.int (.ofNat 0) 0),(.ref 236),(.int (.ofNat 135) 0),(.int (.ofNat 0) 0),(.ref 243),(.int (.ofNat 137) 0),(.int (.ofNat 0) 0),(.ref 250),(.int (.ofNat 142) 0),(.int (.ofNat 0) 0),(.ref 257),(.int (.ofNat 144) 0),(.int (.ofNat 0) 0),(.ref 264),(.int (.ofNat 147) 0),(.int (.ofNat 0) 0),(.ref 271),(.int (.ofNat 156) 0),(.int (.ofNat 0) 0),(.ref 300),(.int (.ofNat 164) 0),(.int (.ofNat 0) 0),(.ref 307),(.int (.ofNat 175) 0),(.int (.ofNat 0) 0),(.ref 335),(.int (.ofNat 196) 0),(.int (.ofNat 0) 0),(.ref 342),(.int (.ofNat 200) 0),(.int (.ofNat 0) 0),(.ref 349)]⟩),⟨[]⟩⟩
noncomputable def o302_7 (P : Params) : Obj := ⟨(.type "tuple"),none,(.seq ⟨[]⟩ 0),⟨[]⟩⟩
noncomputable def o303_7 (P : Params) : Obj := ⟨(.type "builtin_function_or_method"),none,(.fields ⟨[(.builtin "type.__prepare__"),(.type "type")]⟩),⟨[]⟩⟩
noncomputable def o304_7 (P : Params) : Obj := ⟨(.type "dict"),none,(.dict ⟨[⟨(PyData.keyHash P z13),(.str z13 587),(.str z6 578)⟩,⟨(PyData.keyHash P z39),(.str z39 589),(.str z19 588)⟩,⟨(PyData.keyHash P z5),(.str z5 591),(.int (.ofNat 164) 590)⟩,⟨(PyData.keyHash P z8),(.str z8 600),(.ref 315)⟩,⟨(PyData.keyHash P (sk [118,97,114,105,97,98,108,101])),(.str (sk [118,97,114,105,97,98,108,101]) 608),(.ref 322)⟩,⟨(PyData.keyHash P z3),(.str z3 611),(.ref 323)⟩]⟩ 6),⟨[]⟩⟩
noncomputable def o305_7 (P : Params) : Obj := ⟨(.type "tuple"),none,(.seq ⟨[]⟩ 0),⟨[]⟩⟩
noncomputable def o306_7 (P : Params) : Obj := ⟨.none,none,(.fields ⟨[(.int (.ofNat 166) 0),(.int (.ofNat 4) 0),(.ref 314),(.int (.ofNat 170) 0),(.int (.ofNat 4) 0),(.ref 321)]⟩),⟨[]⟩⟩
noncomputable def o307_7 (P : Params) : Obj := ⟨(.type "code"),none,(.fields ⟨[(.str z19 582),(.str z19 583),(.str z1 584),(.int (.ofNat 164) 0),(.int (.ofNat 0) 0),(.int (.ofNat 0) 0),(.int (.ofNat 0) 0),(.int (.ofNat 0) 0),(.ref 305),(.bool false),(.int (.ofNat 181) 0),(.ref 306),.none,.none,.none,.none,(.int (.ofNat 585) 0),(.int (.ofNat 164) 0),(.str z1 586)]⟩),⟨[]⟩⟩
noncomputable def o308_7 (P : Params) : Obj := ⟨(.type "frame"),none,.plain,⟨[(some (.ref 307)),(some (.ref 3)),(some (.ref 304)),none,(some (.str z6 578)),none,(some (.ref 0))]⟩⟩
noncomputable def o309_7 (P : Params) : Obj := ⟨(.type "tuple"),none,(.seq ⟨[]⟩ 0),⟨[]⟩⟩
noncomputable def o310_7 (P : Params) : Obj := ⟨.none,none,(.fields ⟨[]⟩),⟨[]⟩⟩
noncomputable def o311_7 (P : Params) : Obj := ⟨(.type "tuple"),none,(.seq ⟨[(.str (sk [115,101,108,102]) 595),(.str (sk [102,114,101,115,104]) 596),(.str (sk [117,115,101,100]) 597)]⟩ 0),⟨[]⟩⟩
noncomputable def o312_7 (P : Params) : Obj := ⟨(.type "tuple"),none,(.seq ⟨[]⟩ 0),⟨[]⟩⟩
noncomputable def o313_7 (P : Params) : Obj := ⟨.none,none,(.func ⟨z8,(sk [71,114,97,109,109,97,114,86,97,114,105,97,98,108,101,115,46,95,95,105,110,105,116,95,95]),fP (TM 43 0),.stmts (fB (TM 43 0)),fS (TM 43 0),0,[],.none,.none,.none,.none,none,.none,.none,0⟩),⟨[]⟩⟩
noncomputable def o314_7 (P : Params) : Obj := ⟨(.type "code"),none,(.fields ⟨[(.str z8 592),(.str (sk [71,114,97,109,109,97,114,86,97,114,105,97,98,108,101,115,46,95,95,105,110,105,116,95,95]) 593),(.str z1 594),(.int (.ofNat 166) 0),(.int (.ofNat 3) 0),(.int (.ofNat 0) 0),(.int (.ofNat 0) 0),(.int (.ofNat 3) 0),(.ref 309),(.bool true),(.int (.ofNat 181) 0),(.ref 310),.none,(.ref 311),(.ref 312),(.ref 313),(.int (.ofNat 598) 0),(.int (.ofNat 166) 0),(.str z1 599)]⟩),⟨[]⟩⟩
noncomputable def o315_7 (P : Params) : Obj := ⟨(.type "function"),none,(.func ⟨z8,(sk [71,114,97,109,109,97,114,86,97,114,105,97,98,108,101,115,46,95,95,105,110,105,116,95,95]),fP (TM 43 0),.stmts (fB (TM 43 0)),fS (TM 43 0),3,[],.none,.none,.none,(.str z6 578),none,(.ref 314),.none,0⟩),⟨[]⟩⟩
noncomputable def o316_7 (P : Params) : Obj := ⟨(.type "tuple"),none,(.seq ⟨[]⟩ 0),⟨[]⟩⟩
noncomputable def o317_7 (P : Params) : Obj := ⟨.none,none,(.fields ⟨[]⟩),⟨[]⟩⟩
noncomputable def o318_7 (P : Params) : Obj := ⟨(.type "tuple"),none,(.seq ⟨[(.str (sk [115,101,108,102]) 604),(.str (sk [107]) 605)]⟩ 0),⟨[]⟩⟩
noncomputable def o319_7 (P : Params) : Obj := ⟨(.type "tuple"),none,(.seq ⟨[]⟩ 0),⟨[]⟩⟩
noncomputable def o320_7 (P : Params) : Obj := ⟨.none,none,(.func ⟨(sk [118,97,114,105,97,98,108,101]),(sk [71,114,97,109,109,97,114,86,97,114,105,97,98,108,101,115,46,118,97,114,105,97,98,108,101]),fP (TM 43 1),.stmts (fB (TM 43 1)),fS (TM 43 1),0,[],.none,.none,.none,.none,none,.none,.none,0⟩),⟨[]⟩⟩
noncomputable def o321_7 (P : Params) : Obj := ⟨(.type "code"),none,(.fields ⟨[(.str (sk [118,97,114,105,97,98,108,101]) 601),(.str (sk [71,114,97,109,109,97,114,86,97,114,105,97,98,108,101,115,46,118,97,114,105,97,98,108,101]) 602),(.str z1 603),(.int (.ofNat 170) 0),(.int (.ofNat 1) 0),(.int (.ofNat 0) 0),(.int (.ofNat 0) 0),(.int (.ofNat 3) 0),(.ref 316),(.bool true),(.int (.ofNat 181) 0),(.ref 317),.none,(.ref 318),(.ref 319),(.ref 320),(.int (.ofNat 606) 0),(.int (.ofNat 170) 0),(.str z1 607)]⟩),⟨[]⟩⟩
noncomputable def o322_7 (P : Params) : Obj := ⟨(.type "function"),none,(.func ⟨(sk [118,97,114,105,97,98,108,101]),(sk [71,114,97,109,109,97,114,86,97,114,105,97,98,108,101,115,46,118,97,114,105,97,98,108,101]),fP (TM 43 1),.stmts (fB (TM 43 1)),fS (TM 43 1),3,[],.none,.none,.none,(.str z6 578),none,(.ref 321),.none,0⟩),⟨[]⟩⟩
noncomputable def o323_7 (P : Params) : Obj := ⟨(.type "tuple"),none,(.seq ⟨[(.str (sk [102,114,101,115,104]) 609),(.str (sk [117,115,101,100]) 610)]⟩ 0),⟨[]⟩⟩
noncomputable def o324_7 (P : Params) : Obj := ⟨(.type "dict"),none,(.dict ⟨[⟨(PyData.keyHash P z13),(.str z13 587),(.str z6 578)⟩,⟨(PyData.keyHash P z5),(.str z5 591),(.int (.ofNat 164) 590)⟩,⟨(PyData.keyHash P z8),(.str z8 600),(.ref 315)⟩,⟨(PyData.keyHash P (sk [118,97,114,105,97,98,108,101])),(.str (sk [118,97,114,105,97,98,108,101]) 608),(.ref 322)⟩,⟨(PyData.keyHash P z3),(.str z3 611),(.ref 323)⟩,⟨(PyData.keyHash P z60),(.str z60 613),(.ref 326)⟩,⟨(PyData.keyHash P z29),(.str z29 615),(.ref 327)⟩,⟨(PyData.keyHash P z17),(.str z17 616),.none⟩]⟩ 4),⟨[]⟩⟩
noncomputable def o325_7 (P : Params) : Obj := ⟨(.type "type"),none,(.cls ⟨z19,[(.type "object")],[(.ref 325),(.type "object")],324,z19,true,[],[],false,none,false⟩),⟨[none,none,(some (.str z19 580)),(some (.str z19 588)),(some (.builtin "object.__new__")),(some (.bool true))]⟩⟩
noncomputable def o326_7 (P : Params) : Obj := ⟨(.type "getset_descriptor"),none,(.fields ⟨[(.str z60 612),(.ref 325),(.builtin "function.__dict__"),(.builtin "function.__dict__#set")]⟩),⟨[]⟩⟩
noncomputable def o327_7 (P : Params) : Obj := ⟨(.type "getset_descriptor"),none,(.fields ⟨[(.str z29 614),(.ref 325),(.builtin "ExceptionGroup.__weakref__"),.none]⟩),⟨[]⟩⟩
noncomputable def o328_7 (P : Params) : Obj := ⟨(.type "super"),none,(.fields ⟨[(.ref 325),(.ref 325),(.ref 325)]⟩),⟨[]⟩⟩
noncomputable def o329_7 (P : Params) : Obj := ⟨(.type "builtin_function_or_method"),none,(.fields ⟨[(.builtin "object.__init_subclass__"),(.ref 325)]⟩),⟨[]⟩⟩
noncomputable def o330_7 (P : Params) : Obj := ⟨(.type "tuple"),none,(.seq ⟨[]⟩ 0),⟨[]⟩⟩
noncomputable def o331_7 (P : Params) : Obj := ⟨.none,none,(.fields ⟨[]⟩),⟨[]⟩⟩
noncomputable def o332_7 (P : Params) : Obj := ⟨(.type "tuple"),none,(.seq ⟨[(.str (sk [115,121,109,98,111,108,115]) 622),(.str (sk [116,101,114,109]) 623),(.str (sk [102,114,101,115,104]) 624),(.str (sk [110,101,119]) 625),(.str (sk [104,101,97,100]) 626),(.str (sk [98,111,100,121]) 627),(.str (sk [112,117,115,104,98,97,99,107]) 628),(.str (sk [102,105,114,115,116]) 629),(.str (sk [108,97,115,116]) 630),(.str (sk [110,101,119,95,104,101,97,100]) 631),(.str (sk [109,105,100,100,108,101]) 632),(.str (sk [103,111,97,108]) 633),(.str (sk [98,97,99,107]) 634)]⟩ 0),⟨[]⟩⟩
noncomputable def o333_7 (P : Params) : Obj := ⟨(.type "tuple"),none,(.seq ⟨[]⟩ 0),⟨[]⟩⟩
noncomputable def o334_7 (P : Params) : Obj := ⟨.none,none,(.func ⟨z18,z18,fP (T 44),.stmts (fB (T 44)),fS (T 44),0,[],.none,.none,.none,.none,none,.none,.none,0⟩),⟨[]⟩⟩
noncomputable def o335_7 (P : Params) : Obj := ⟨(.type "code"),none,(.fields ⟨[(.str z18 619),(.str z18 620),(.str z1 621),(.int (.ofNat 175) 0),(.int (.ofNat 3) 0),(.int (.ofNat 0) 0),(.int (.ofNat 0) 0),(.int (.ofNat 3) 0),(.ref 330),(.bool true),(.int (.ofNat 181) 0),(.ref 331),.none,(.ref 332),(.ref 333),(.ref 334),(.int (.ofNat 635) 0),(.int (.ofNat 175) 0),(.str z1 636)]⟩),⟨[]⟩⟩
noncomputable def o336_7 (P : Params) : Obj := ⟨(.type "function"),none,(.func ⟨z18,z18,fP (T 44),.stmts (fB (T 44)),fS (T 44),3,[],.none,.none,.none,(.str z6 578),none,(.ref 335),.none,0⟩),⟨[]⟩⟩
noncomputable def o337_7 (P : Params) : Obj := ⟨(.type "tuple"),none,(.seq ⟨[]⟩ 0),⟨[]⟩⟩
noncomputable def o338_7 (P : Params) : Obj := ⟨.none,none,(.fields ⟨[]⟩),⟨[]⟩⟩
noncomputable def o339_7 (P : Params) : Obj := ⟨(.type "tuple"),none,(.seq ⟨[(.str (sk [115,121,109,98,111,108,115]) 641),(.str (sk [116,101,114,109]) 642),(.str (sk [102,105,114,115,116]) 643),(.str (sk [108,97,115,116]) 644),(.str (sk [102]) 645),(.str (sk [97,114,103,115]) 646)]⟩ 0),⟨[]⟩⟩
noncomputable def o340_7 (P : Params) : Obj := ⟨(.type "tuple"),none,(.seq ⟨[]⟩ 0),⟨[]⟩⟩
noncomputable def o341_7 (P : Params) : Obj := ⟨.none,none,(.func ⟨z36,z36,fP (T 45),.stmts (fB (T 45)),fS (T 45),0,[],.none,.none,.none,.none,none,.none,.none,0⟩),⟨[]⟩⟩
noncomputable def o342_7 (P : Params) : Obj := ⟨(.type "code"),none,(.fields ⟨[(.str z36 638),(.str z36 639),(.str z1 640),(.int (.ofNat 196) 0),(.int (.ofNat 4) 0),(.int (.ofNat 0) 0),(.int (.ofNat 0) 0),(.int (.ofNat 3) 0),(.ref 337),(.bool true),(.int (.ofNat 181) 0),(.ref 338),.none,(.ref 339),(.ref 340),(.ref 341),(.int (.ofNat 647) 0),(.int (.ofNat 196) 0),(.str z1 648)]⟩),⟨[]⟩⟩
noncomputable def o343_7 (P : Params) : Obj := ⟨(.type "function"),none,(.func ⟨z36,z36,fP (T 45),.stmts (fB (T 45)),fS (T 45),3,[],.none,.none,.none,(.str z6 578),none,(.ref 342),.none,0⟩),⟨[]⟩⟩
noncomputable def o344_7 (P : Params) : Obj := ⟨(.type "tuple"),none,(.seq ⟨[]⟩ 0),⟨[]⟩⟩
noncomputable def o345_7 (P : Params) : Obj := ⟨.none,none,(.fields ⟨[]⟩),⟨[]⟩⟩
noncomputable def o346_7 (P : Params) : Obj := ⟨(.type "tuple"),none,(.seq ⟨[(.str (sk [115,121,109,98,111,108,115]) 653),(.str (sk [116,101,114,109]) 654),(.str (sk [102,105,114,115,116]) 655),(.str (sk [108,97,115,116]) 656),(.str (sk [105,116,101,109,115]) 657),(.str (sk [116,97,105,108]) 658)]⟩ 0),⟨[]⟩⟩
noncomputable def o347_7 (P : Params) : Obj := ⟨(.type "tuple"),none,(.seq ⟨[]⟩ 0),⟨[]⟩⟩
noncomputable def o348_7 (P : Params) : Obj := ⟨.none,none,(.func ⟨z47,z47,fP (T 46),.stmts (fB (T 46)),fS (T 46),0,[],.none,.none,.none,.none,none,.none,.none,0⟩),⟨[]⟩⟩
noncomputable def o349_7 (P : Params) : Obj := ⟨(.type "code"),none,(.fields ⟨[(.str z47 650),(.str z47 651),(.str z1 652),(.int (.ofNat 200) 0),(.int (.ofNat 4) 0),(.int (.ofNat 0) 0),(.int (.ofNat 0) 0),(.int (.ofNat 3) 0),(.ref 344),(.bool true),(.int (.ofNat 181) 0),(.ref 345),.none,(.ref 346),(.ref 347),(.ref 348),(.int (.ofNat 659) 0),(.int (.ofNat 200) 0),(.str z1 660)]⟩),⟨[]⟩⟩
noncomputable def o350_7 (P : Params) : Obj := ⟨(.type "function"),none,(.func ⟨z47,z47,fP (T 46),.stmts (fB (T 46)),fS (T 46),3,[],.none,.none,.none,(.str z6 578),none,(.ref 349),.none,0⟩),⟨[]⟩⟩
noncomputable def tree7 (P : Params) : BT := (.node (PySem.W.boot_o_0 P) (.node (PySem.W.boot_o_1 P) (.node (o3_7 P) (.node (PySem.W.boot_o_7 P) (.node (o15_1 P) (.node (o31_2 P) (.node (o63_3 P) (.node (o127_4 P) (.node (o255_6 P) .nil .nil) .nil) (.node (o191_5 P) (.node (o319_7 P) .nil .nil) .nil)) (.node (o95_4 P) (.node (o159_5 P) (.node (o287_6 P) .nil .nil) .nil) (.node (o223_5 P) .nil .nil))) (.node (o47_2 P) (.node (o79_4 P) (.node (o143_4 P) (.node (o271_6 P) .nil .nil) .nil) (.node (o207_5 P) (.node (o335_7 P) .nil .nil) .nil)) (.node (o111_4 P) (.node (o175_5 P) (.node (o303_7 P) .nil .nil) .nil) (.node (o239_5 P) .nil .nil)))) (.node (o23_1 P) (.node (o39_2 P) (.node (o71_4 P) (.node (o135_4 P) (.node (o263_6 P) .nil .nil) .nil) (.node (o199_5 P) (.node (o327_7 P) .nil .nil) .nil)) (.node (o103_4 P) (.node (o167_5 P) (.node (o295_6 P) .nil .nil) .nil) (.node (o231_5 P) .nil .nil))) (.node (o55_3 P) (.node (o87_4 P) (.node (o151_4 P) (.node (o279_6 P) .nil .nil) .nil) (.node (o215_5 P) (.node (o343_7 P) .nil .nil) .nil)) (.node (o119_4 P) (.node (o183_5 P) (.node (o311_7 P) .nil .nil) .nil) (.node (o247_6 P) .nil .nil))))) (.node (o11a P) (.node (o19_1 P) (.node (o35_2 P) (.node (o67_3 P) (.node (o131_4 P) (.node (o259_6 P) .nil .nil) .nil) (.node (o195_5 P) (.node (o323_7 P) .nil .nil) .nil)) (.node (o99_4 P) (.node (o163_5 P) (.node (o291_6 P) .nil .nil) .nil) (.node (o227_5 P) .nil .nil))) (.node (o51_2 P) (.node (o83_4 P) (.node (o147_4 P) (.node (o275_6 P) .nil .nil) .nil) (.node (o211_5 P) (.node (o339_7 P) .nil .nil) .nil)) (.node (o115_4 P) (.node (o179_5 P) (.node (o307_7 P) .nil .nil) .nil) (.node (o243_5 P) .nil .nil)))) (.node (o27_1 P) (.node (o43_2 P) (.node (o75_4 P) (.node (o139_4 P) (.node (o267_6 P) .nil .nil) .nil) (.node (o203_5 P) (.node (o331_7 P) .nil .nil) .nil)) (.node (o107_4 P) (.node (o171_5 P) (.node (o299_6 P) .nil .nil) .nil) (.node (o235_5 P) .nil .nil))) (.node (o59_3 P) (.node (o91_4 P) (.node (o155_4 P) (.node (o283_6 P) .nil .nil) .nil) (.node (o219_5 P) (.node (o347_7 P) .nil .nil) .nil)) (.node (o123_4 P) (.node (o187_5 P) (.node (o315_7 P) .nil .nil) .nil) (.node (o251_6 P) .nil .nil)))))) (.node (PySem.W.boot_o_5 P) (.node (PySem.W.boot_o_9 P) (.node (o17_1 P) (.node (o33_1 P) (.node (o65_3 P) (.node (o129_4 P) (.node (o257_6 P) .nil .nil) .nil) (.node (o193_5 P) (.node (o321_7 P) .nil .nil) .nil)) (.node (o97_4 P) (.node (o161_5 P) (.node (o289_6 P) .nil .nil) .nil) (.node (o225_5 P) .nil .nil))) (.node (o49_2 P) (.node (o81_4 P) (.node (o145_4 P) (.node (o273_6 P) .nil .nil) .nil) (.node (o209_5 P) (.node (o337_7 P) .nil .nil) .nil)) (.node (o113_4 P) (.node (o177_5 P) (.node (o305_7 P) .nil .nil) .nil) (.node (o241_5 P) .nil .nil)))) (.node (o25_1 P) (.node (o41_2 P) (.node (o73_4 P) (.node (o137_4 P) (.node (o265_6 P) .nil .nil) .nil) (.node (o201_5 P) (.node (o329_7 P) .nil .nil) .nil)) (.node (o105_4 P) (.node (o169_5 P) (.node (o297_6 P) .nil .nil) .nil) (.node (o233_5 P) .nil .nil))) (.node (o57_3 P) (.node (o89_4 P) (.node (o153_4 P) (.node (o281_6 P) .nil .nil) .nil) (.node (o217_5 P) (.node (o345_7 P) .nil .nil) .nil)) (.node (o121_4 P) (.node (o185_5 P) (.node (o313_7 P) .nil .nil) .nil) (.node (o249_6 P) .nil .nil))))) (.node (o13a P) (.node (o21_1 P) (.node (o37_2 P) (.node (o69_4 P) (.node (o133_4 P) (.node (o261_6 P) .nil .nil) .nil) (.node (o197_5 P) (.node (o325_7 P) .nil .nil) .nil)) (.node (o101_4 P) (.node (o165_5 P) (.node (o293_6 P) .nil .nil) .nil) (.node (o229_5 P) .nil .nil))) (.node (o53_2 P) (.node (o85_4 P) (.node (o149_4 P) (.node (o277_6 P) .nil .nil) .nil) (.node (o213_5 P) (.node (o341_7 P) .nil .nil) .nil)) (.node (o117_4 P) (.node (o181_5 P) (.node (o309_7 P) .nil .nil) .nil) (.node (o245_6 P) .nil .nil)))) (.node (o29_1 P) (.node (o45_2 P) (.node (o77_4 P) (.node (o141_4 P) (.node (o269_6 P) .nil .nil) .nil) (.node (o205_5 P) (.node (o333_7 P) .nil .nil) .nil)) (.node (o109_4 P) (.node (o173_5 P) (.node (o301_6 P) .nil .nil) .nil) (.node (o237_5 P) .nil .nil))) (.node (o61_3 P) (.node (o93_4 P) (.node (o157_4 P) (.node (o285_6 P) .nil .nil) .nil) (.node (o221_5 P) (.node (o349_7 P) .nil .nil) .nil)) (.node (o125_4 P) (.node (o189_5 P) (.node (o317_7 P) .nil .nil) .nil) (.node (o253_6 P) .nil .nil))))))) (.node (o2_1 P) (.node (PySem.W.boot_o_4 P) (.node (PySem.W.boot_o_8 P) (.node (o16_1 P) (.node (o32_1 P) (.node (o64_3 P) (.node (o128_4 P) (.node (o256_6 P) .nil .nil) .nil) (.node (o192_5 P) (.node (o320_7 P) .nil .nil) .nil)) (.node (o96_4 P) (.node (o160_5 P) (.node (o288_6 P) .nil .nil) .nil) (.node (o224_5 P) .nil .nil))) (.node (o48_2 P) (.node (o80_4 P) (.node (o144_4 P) (.node (o272_6 P) .nil .nil) .nil) (.node (o208_5 P) (.node (o336_7 P) .nil .nil) .nil)) (.node (o112_4 P) (.node (o176_5 P) (.node (o304_7 P) .nil .nil) .nil) (.node (o240_5 P) .nil .nil)))) (.node (o24_1 P) (.node (o40_2 P) (.node (o72_4 P) (.node (o136_4 P) (.node (o264_6 P) .nil .nil) .nil) (.node (o200_5 P) (.node (o328_7 P) .nil .nil) .nil)) (.node (o104_4 P) (.node (o168_5 P) (.node (o296_6 P) .nil .nil) .nil) (.node (o232_5 P) .nil .nil))) (.node (o56_3 P) (.node (o88_4 P) (.node (o152_4 P) (.node (o280_6 P) .nil .nil) .nil) (.node (o216_5 P) (.node (o344_7 P) .nil .nil) .nil)) (.node (o120_4 P) (.node (o184_5 P) (.node (o312_7 P) .nil .nil) .nil) (.node (o248_6 P) .nil .nil))))) (.node (o12_7 P) (.node (o20_1 P) (.node (o36_2 P) (.node (o68_4 P) (.node (o132_4 P) (.node (o260_6 P) .nil .nil) .nil) (.node (o196_5 P) (.node (o324_7 P) .nil .nil) .nil)) (.node (o100_4 P) (.node (o164_5 P) (.node (o292_6 P) .nil .nil) .nil) (.node (o228_5 P) .nil .nil))) (.node (o52_2 P) (.node (o84_4 P) (.node (o148_4 P) (.node (o276_6 P) .nil .nil) .nil) (.node (o212_5 P) (.node (o340_7 P) .nil .nil) .nil)) (.node (o116_4 P) (.node (o180_5 P) (.node (o308_7 P) .nil .nil) .nil) (.node (o244_5 P) .nil .nil)))) (.node (o28_1 P) (.node (o44_2 P) (.node (o76_4 P) (.node (o140_4 P) (.node (o268_6 P) .nil .nil) .nil) (.node (o204_5 P) (.node (o332_7 P) .nil .nil) .nil)) (.node (o108_4 P) (.node (o172_5 P) (.node (o300_6 P) .nil .nil) .nil) (.node (o236_5 P) .nil .nil))) (.node (o60_3 P) (.node (o92_4 P) (.node (o156_4 P) (.node (o284_6 P) .nil .nil) .nil) (.node (o220_5 P) (.node (o348_7 P) .nil .nil) .nil)) (.node (o124_4 P) (.node (o188_5 P) (.node (o316_7 P) .nil .nil) .nil) (.node (o252_6 P) .nil .nil)))))) (.node (PySem.W.boot_o_6 P) (.node (PySem.W.boot_o_10 P) (.node (o18_1 P) (.node (o34_1 P) (.node (o66_3 P) (.node (o130_4 P) (.node (o258_6 P) .nil .nil) .nil) (.node (o194_5 P) (.node (o322_7 P) .nil .nil) .nil)) (.node (o98_4 P) (.node (o162_5 P) (.node (o290_6 P) .nil .nil) .nil) (.node (o226_5 P) .nil .nil))) (.node (o50_2 P) (.node (o82_4 P) (.node (o146_4 P) (.node (o274_6 P) .nil .nil) .nil) (.node (o210_5 P) (.node (o338_7 P) .nil .nil) .nil)) (.node (o114_4 P) (.node (o178_5 P) (.node (o306_7 P) .nil .nil) .nil) (.node (o242_5 P) .nil .nil)))) (.node (o26_1 P) (.node (o42_2 P) (.node (o74_4 P) (.node (o138_4 P) (.node (o266_6 P) .nil .nil) .nil) (.node (o202_5 P) (.node (o330_7 P) .nil .nil) .nil)) (.node (o106_4 P) (.node (o170_5 P) (.node (o298_6 P) .nil .nil) .nil) (.node (o234_5 P) .nil .nil))) (.node (o58_3 P) (.node (o90_4 P) (.node (o154_4 P) (.node (o282_6 P) .nil .nil) .nil) (.node (o218_5 P) (.node (o346_7 P) .nil .nil) .nil)) (.node (o122_4 P) (.node (o186_5 P) (.node (o314_7 P) .nil .nil) .nil) (.node (o250_6 P) .nil .nil))))) (.node (o14a P) (.node (o22_1 P) (.node (o38_2 P) (.node (o70_4 P) (.node (o134_4 P) (.node (o262_6 P) .nil .nil) .nil) (.node (o198_5 P) (.node (o326_7 P) .nil .nil) .nil)) (.node (o102_4 P) (.node (o166_5 P) (.node (o294_6 P) .nil .nil) .nil) (.node (o230_5 P) .nil .nil))) (.node (o54_3 P) (.node (o86_4 P) (.node (o150_4 P) (.node (o278_6 P) .nil .nil) .nil) (.node (o214_5 P) (.node (o342_7 P) .nil .nil) .nil)) (.node (o118_4 P) (.node (o182_5 P) (.node (o310_7 P) .nil .nil) .nil) (.node (o246_6 P) .nil .nil)))) (.node (o30_1 P) (.node (o46_2 P) (.node (o78_4 P) (.node (o142_4 P) (.node (o270_6 P) .nil .nil) .nil) (.node (o206_5 P) (.node (o334_7 P) .nil .nil) .nil)) (.node (o110_4 P) (.node (o174_5 P) (.node (o302_7 P) .nil .nil) .nil) (.node (o238_5 P) .nil .nil))) (.node (o62_3 P) (.node (o94_4 P) (.node (o158_4 P) (.node (o286_6 P) .nil .nil) .nil) (.node (o222_5 P) (.node (o350_7 P) .nil .nil) .nil)) (.node (o126_4 P) (.node (o190_5 P) (.node (o318_7 P) .nil .nil) .nil) (.node (o254_6 P) .nil .nil))))))))
noncomputable abbrev S7 (w : World) (os : OsState) : SharedT := ⟨tree7 w.params,351,life0,⟨[]⟩,PySem.W.boot_drawn,662,os⟩
noncomputable def sts7 : List Stmt := [T 43,T 44,T 45,T 46]
theorem pc7 (w : World) (os : OsState) : segRunT treeTable PT w 11 ann0 1 366 (S6 w os) (piecesOf sts7 env0 cE ⟨163, 0, 163, 8⟩ [topFrame q0]) = some (.next, S7 w os, cE, ⟨200, 0, 206, 59⟩) := by
  rw [show @segRunT = _ from PySem.W.Fast.te10110043849684766642, show @treeTable = _ from PySem.W.Fast.te14364793385576792824]
  delta piecesOf
  rw [show @execs = _ from PySem.W.Fast.te12563942051412417395]
  kernel_rfl
noncomputable def o3_8 (P : Params) : Obj := ⟨(.type "dict"),none,(.dict ⟨[⟨(PyData.keyHash P z37),(.str z37 165),(.str z52 746)⟩,⟨(PyData.keyHash P z17),(.str z17 166),.none⟩,⟨(PyData.keyHash P z21),(.str z21 167),.none⟩,⟨(PyData.keyHash P z23),(.str z23 168),(.builtin "__main__.__loader__#opaque")⟩,⟨(PyData.keyHash P z38),(.str z38 169),.none⟩,⟨(PyData.keyHash P z11),(.str z11 170),(.ref 6)⟩,⟨(PyData.keyHash P z15),(.str z15 171),(.ref 4)⟩,⟨(PyData.keyHash P z34),(.str z34 173),(.str z1 172)⟩,⟨(PyData.keyHash P z27),(.str z27 174),.none⟩,⟨(PyData.keyHash P z41),(.str z41 193),(.ref 21)⟩,⟨(PyData.keyHash P z4),(.str z4 215),(.ref 31)⟩,⟨(PyData.keyHash P z10),(.str z10 240),(.ref 51)⟩,⟨(PyData.keyHash P (sk [65,95,78,73,76])),(.str (sk [65,95,78,73,76]) 242),(.int (.ofNat 0) 241)⟩,⟨(PyData.keyHash P (sk [65,95,66,65,82])),(.str (sk [65,95,66,65,82]) 244),(.int (.ofNat 8) 243)⟩,⟨(PyData.keyHash P (sk [65,95,67,85,84])),(.str (sk [65,95,67,85,84]) 246),(.int (.ofNat 15) 245)⟩,⟨(PyData.keyHash P (sk [65,95,84,82,85,69])),(.str (sk [65,95,84,82,85,69]) 248),(.int (.ofNat 16) 247)⟩,⟨(PyData.keyHash P z50),(.str z50 250),(.int (.ofNat 25) 249)⟩,⟨(PyData.keyHash P (sk [70,95,68,79,84])),(.str (sk [70,95,68,79,84]) 252),(.int (.ofNat 0) 251)⟩,⟨(PyData.keyHash P z55),(.str z55 254),(.int (.ofNat 1) 253)⟩,⟨(PyData.keyHash P (sk [70,95,83,69,77,73])),(.str (sk [70,95,83,69,77,73]) 256),(.int (.ofNat 2) 255)⟩,⟨(PyData.keyHash P z56),(.str z56 258),(.int (.ofNat 3) 257)⟩,⟨(PyData.keyHash P (sk [70,95,78,79,84])),(.str (sk [70,95,78,79,84]) 260),(.int (.ofNat 4) 259)⟩,⟨(PyData.keyHash P (sk [70,95,78,69,67,75])),(.str (sk [70,95,78,69,67,75]) 262),(.int (.ofNat 5) 261)⟩,⟨(PyData.keyHash P z42),(.str z42 264),(.int (.ofNat 8) 263)⟩,⟨(PyData.keyHash P z57),(.str z57 266),(.int (.ofNat 9) 265)⟩,⟨(PyData.keyHash P z58),(.str z58 268),(.int (.ofNat 10) 267)⟩,⟨(PyData.keyHash P z59),(.str z59 270),(.int (.ofNat 16) 269)⟩,⟨(PyData.keyHash P z14),(.str z14 276),(.ref 60)⟩,⟨(PyData.keyHash P z7),(.str z7 282),(.ref 67)⟩,⟨(PyData.keyHash P z35),(.str z35 401),(.ref 154)⟩,⟨(PyData.keyHash P (sk [78,73,76])),(.str (sk [78,73,76]) 405),(.ref 159)⟩,⟨(PyData.keyHash P (sk [118,97,114])),(.str (sk [118,97,114]) 412),(.ref 166)⟩,⟨(PyData.keyHash P z49),(.str z49 419),(.ref 173)⟩,⟨(PyData.keyHash P z51),(.str z51 427),(.ref 180)⟩,⟨(PyData.keyHash P z30),(.str z30 437),(.ref 188)⟩,⟨(PyData.keyHash P z24),(.str z24 445),(.ref 195)⟩,⟨(PyData.keyHash P z25),(.str z25 452),(.ref 202)⟩,⟨(PyData.keyHash P z26),(.str z26 460),(.ref 209)⟩,⟨(PyData.keyHash P z31),(.str z31 467),(.ref 216)⟩,⟨(PyData.keyHash P z33),(.str z33 474),(.ref 223)⟩,⟨(PyData.keyHash P z20),(.str z20 485),(.ref 230)⟩,⟨(PyData.keyHash P z22),(.str z22 494),(.ref 237)⟩,⟨(PyData.keyHash P z16),(.str z16 501),(.ref 244)⟩,⟨(PyData.keyHash P z40),(.str z40 512),(.ref 251)⟩,⟨(PyData.keyHash P z9),(.str z9 519),(.ref 258)⟩,⟨(PyData.keyHash P z32),(.str z32 528),(.ref 265)⟩,⟨(PyData.keyHash P (sk [70,114,101,115,104])),(.str (sk [70,114,101,115,104]) 568),(.ref 290)⟩,⟨(PyData.keyHash P z28),(.str z28 577),(.ref 301)⟩,⟨(PyData.keyHash P z19),(.str z19 618),(.ref 325)⟩,⟨(PyData.keyHash P z18),(.str z18 637),(.ref 336)⟩,⟨(PyData.keyHash P z36),(.str z36 649),(.ref 343)⟩,⟨(PyData.keyHash P z47),(.str z47 661),(.ref 350)⟩,⟨(PyData.keyHash P z43),(.str z43 711),(.ref 379)⟩,⟨(PyData.keyHash P z44),(.str z44 727),(.ref 390)⟩,⟨(PyData.keyHash P z45),(.str z45 733),(.ref 395)⟩,⟨(PyData.keyHash P z54),(.str z54 745),(.ref 402)⟩]⟩ 56),⟨[]⟩⟩
noncomputable def o12_8 (P : Params) : Obj := ⟨.none,none,(.fields ⟨[(.int (.ofNat 1) 0),(.int (.ofNat 0) 0),(.ref 20),(.int (.ofNat 5) 0),(.int (.ofNat 0) 0),(.ref 27),(.int (.ofNat 7) 0),(.int (.ofNat 0) 0),(.ref 40),(.int (.ofNat 26) 0),(.int (.ofNat 0) 0),(.ref 59),(.int (.ofNat 28) 0),(.int (.ofNat 0) 0),(.ref 66),(.int (.ofNat 30) 0),(.int (.ofNat 0) 0),(.ref 73),(.int (.ofNat 86) 0),(.int (.ofNat 0) 0),(.ref 165),(.int (.ofNat 88) 0),(.int (.ofNat 0) 0),(.ref 172),(.int (.ofNat 90) 0),(.int (.ofNat 0) 0),(.ref 179),(.int (.ofNat 92) 0),(.int (.ofNat 0) 0),(.ref 187),(.int (.ofNat 97) 0),(.int (.ofNat 0) 0),(.ref 194),(.int (.ofNat 103) 0),(.int (.ofNat 0) 0),(.ref 201),(.int (.ofNat 105) 0),(.int (.ofNat 0) 0),(.ref 208),(.int (.ofNat 109) 0),(.int (.ofNat 0) 0),(.ref 215),(.int (.ofNat 113) 0),(.int (.ofNat 0) 0),(.ref 222),(.int (.ofNat 115) 0),(.int (.ofNat 0) 0),(.ref 229),(.int (.ofNat 128) 0),(.int (.ofNat 0) 0),(.ref 236),(.int (.ofNat 135) 0),(.int (.ofNat 0) 0),(.ref 243),(.int (.ofNat 137) 0),(.int (.ofNat 0) 0),(.ref 250),(.int (.ofNat 142) 0),(.int (.ofNat 0) 0),(.ref 257),(.int (.ofNat 144) 0),(.int (.ofNat 0) 0),(.ref 264),(.int (.ofNat 147) 0),(.int (.ofNat 0) 0),(.ref 271),(.int (.ofNat 156) 0),(.int (.ofNat 0) 0),(.ref 300),(.int (.ofNat 164) 0),(.int (.ofNat 0) 0),(.ref 307),(.int (.ofNat 175) 0),(.int (.ofNat 0) 0),(.ref 335),(.int (.ofNat 196) 0),(.int (.ofNat 0) 0),(.ref 342),(.int (.ofNat 200) 0),(.int (.ofNat 0) 0),(.ref 349),(.int (.ofNat 207) 0),(.int (.ofNat 0) 0),(.ref 356),(.int (.ofNat 242) 0),(.int (.ofNat 0) 0),(.ref 389),(.int (.ofNat 248) 0),(.int (.ofNat 0) 0),(.ref 394),(.int (.ofNat 276) 0),(.int (.ofNat 0) 0),(.ref 401)]⟩),⟨[]⟩⟩
noncomputable def o351_8 (P : Params) : Obj := ⟨(.type "tuple"),none,(.seq ⟨[]⟩ 0),⟨[]⟩⟩
noncomputable def o352_8 (P : Params) : Obj := ⟨(.type "builtin_function_or_method"),none,(.fields ⟨[(.builtin "type.__prepare__"),(.type "type")]⟩),⟨[]⟩⟩
noncomputable def o353_8 (P : Params) : Obj := ⟨(.type "dict"),none,(.dict ⟨[⟨(PyData.keyHash P z13),(.str z13 669),(.str z6 578)⟩,⟨(PyData.keyHash P z39),(.str z39 671),(.str z43 670)⟩,⟨(PyData.keyHash P z5),(.str z5 673),(.int (.ofNat 207) 672)⟩,⟨(PyData.keyHash P z8),(.str z8 683),(.ref 364)⟩,⟨(PyData.keyHash P (sk [104,111,108,100])),(.str (sk [104,111,108,100]) 695),(.ref 371)⟩,⟨(PyData.keyHash P (sk [103,111,97,108])),(.str (sk [103,111,97,108]) 701),(.ref 376)⟩,⟨(PyData.keyHash P z3),(.str z3 704),(.ref 377)⟩]⟩ 7),⟨[]⟩⟩
noncomputable def o354_8 (P : Params) : Obj := ⟨(.type "tuple"),none,(.seq ⟨[]⟩ 0),⟨[]⟩⟩
noncomputable def o355_8 (P : Params) : Obj := ⟨.none,none,(.fields ⟨[(.int (.ofNat 209) 0),(.int (.ofNat 4) 0),(.ref 363),(.int (.ofNat 213) 0),(.int (.ofNat 4) 0),(.ref 370),(.int (.ofNat 222) 0),(.int (.ofNat 4) 0),(.ref 375)]⟩),⟨[]⟩⟩
noncomputable def o356_8 (P : Params) : Obj := ⟨(.type "code"),none,(.fields ⟨[(.str z43 664),(.str z43 665),(.str z1 666),(.int (.ofNat 207) 0),(.int (.ofNat 0) 0),(.int (.ofNat 0) 0),(.int (.ofNat 0) 0),(.int (.ofNat 0) 0),(.ref 354),(.bool false),(.int (.ofNat 181) 0),(.ref 355),.none,.none,.none,.none,(.int (.ofNat 667) 0),(.int (.ofNat 207) 0),(.str z1 668)]⟩),⟨[]⟩⟩
noncomputable def o357_8 (P : Params) : Obj := ⟨(.type "frame"),none,.plain,⟨[(some (.ref 356)),(some (.ref 3)),(some (.ref 353)),none,(some (.str z6 578)),none,(some (.ref 0))]⟩⟩
noncomputable def o358_8 (P : Params) : Obj := ⟨(.type "tuple"),none,(.seq ⟨[]⟩ 0),⟨[]⟩⟩
noncomputable def o359_8 (P : Params) : Obj := ⟨.none,none,(.fields ⟨[]⟩),⟨[]⟩⟩
noncomputable def o360_8 (P : Params) : Obj := ⟨(.type "tuple"),none,(.seq ⟨[(.str (sk [115,101,108,102]) 677),(.str (sk [116,101,114,109]) 678),(.str (sk [102,105,114,115,116]) 679),(.str (sk [108,97,115,116]) 680)]⟩ 0),⟨[]⟩⟩
noncomputable def o361_8 (P : Params) : Obj := ⟨(.type "tuple"),none,(.seq ⟨[]⟩ 0),⟨[]⟩⟩
noncomputable def o362_8 (P : Params) : Obj := ⟨.none,none,(.func ⟨z8,(sk [71,114,97,109,109,97,114,84,114,101,101,46,95,95,105,110,105,116,95,95]),fP (TM 47 0),.stmts (fB (TM 47 0)),fS (TM 47 0),0,[],.none,.none,.none,.none,none,.none,.none,0⟩),⟨[]⟩⟩
noncomputable def o363_8 (P : Params) : Obj := ⟨(.type "code"),none,(.fields ⟨[(.str z8 674),(.str (sk [71,114,97,109,109,97,114,84,114,101,101,46,95,95,105,110,105,116,95,95]) 675),(.str z1 676),(.int (.ofNat 209) 0),(.int (.ofNat 4) 0),(.int (.ofNat 0) 0),(.int (.ofNat 0) 0),(.int (.ofNat 3) 0),(.ref 358),(.bool true),(.int (.ofNat 181) 0),(.ref 359),.none,(.ref 360),(.ref 361),(.ref 362),(.int (.ofNat 681) 0),(.int (.ofNat 209) 0),(.str z1 682)]⟩),⟨[]⟩⟩
noncomputable def o364_8 (P : Params) : Obj := ⟨(.type "function"),none,(.func ⟨z8,(sk [71,114,97,109,109,97,114,84,114,101,101,46,95,95,105,110,105,116,95,95]),fP (TM 47 0),.stmts (fB (TM 47 0)),fS (TM 47 0),3,[],.none,.none,.none,(.str z6 578),none,(.ref 363),.none,0⟩),⟨[]⟩⟩
noncomputable def o365_8 (P : Params) : Obj := ⟨(.type "tuple"),none,(.seq ⟨[]⟩ 0),⟨[]⟩⟩
noncomputable def o366_8 (P : Params) : Obj := ⟨.none,none,(.fields ⟨[]⟩),⟨[]⟩⟩
noncomputable def o367_8 (P : Params) : Obj := ⟨(.type "tuple"),none,(.seq ⟨[(.str (sk [115,101,108,102]) 687),(.str (sk [119,111,114,100]) 688),(.str (sk [112,97,114,116,115]) 689),(.str (sk [112,108,97,99,101,115]) 690),(.str (sk [112,97,114,116]) 691),(.str (sk [97,116]) 692)]⟩ 0),⟨[]⟩⟩
noncomputable def o368_8 (P : Params) : Obj := ⟨(.type "tuple"),none,(.seq ⟨[]⟩ 0),⟨[]⟩⟩
noncomputable def o369_8 (P : Params) : Obj := ⟨.none,none,(.func ⟨(sk [104,111,108,100]),(sk [71,114,97,109,109,97,114,84,114,101,101,46,104,111,108,100]),fP (TM 47 1),.stmts (fB (TM 47 1)),fS (TM 47 1),0,[],.none,.none,.none,.none,none,.none,.none,0⟩),⟨[]⟩⟩
noncomputable def o370_8 (P : Params) : Obj := ⟨(.type "code"),none,(.fields ⟨[(.str (sk [104,111,108,100]) 684),(.str (sk [71,114,97,109,109,97,114,84,114,101,101,46,104,111,108,100]) 685),(.str z1 686),(.int (.ofNat 213) 0),(.int (.ofNat 3) 0),(.int (.ofNat 0) 0),(.int (.ofNat 0) 0),(.int (.ofNat 3) 0),(.ref 365),(.bool true),(.int (.ofNat 181) 0),(.ref 366),.none,(.ref 367),(.ref 368),(.ref 369),(.int (.ofNat 693) 0),(.int (.ofNat 213) 0),(.str z1 694)]⟩),⟨[]⟩⟩
noncomputable def o371_8 (P : Params) : Obj := ⟨(.type "function"),none,(.func ⟨(sk [104,111,108,100]),(sk [71,114,97,109,109,97,114,84,114,101,101,46,104,111,108,100]),fP (TM 47 1),.stmts (fB (TM 47 1)),fS (TM 47 1),3,[],.none,.none,.none,(.str z6 578),none,(.ref 370),.none,0⟩),⟨[]⟩⟩
noncomputable def o372_8 (P : Params) : Obj := ⟨(.type "tuple"),none,(.seq ⟨[]⟩ 0),⟨[]⟩⟩
noncomputable def o373_8 (P : Params) : Obj := ⟨.none,none,(.fields ⟨[]⟩),⟨[]⟩⟩
noncomputable def o374_8 (P : Params) : Obj := ⟨.none,none,(.func ⟨(sk [103,111,97,108]),(sk [71,114,97,109,109,97,114,84,114,101,101,46,103,111,97,108]),fP (TM 47 2),.stmts (fB (TM 47 2)),fS (TM 47 2),0,[],.none,.none,.none,.none,none,.none,.none,0⟩),⟨[]⟩⟩
noncomputable def o375_8 (P : Params) : Obj := ⟨(.type "code"),none,(.fields ⟨[(.str (sk [103,111,97,108]) 696),(.str (sk [71,114,97,109,109,97,114,84,114,101,101,46,103,111,97,108]) 697),(.str z1 698),(.int (.ofNat 222) 0),(.int (.ofNat 1) 0),(.int (.ofNat 0) 0),(.int (.ofNat 0) 0),(.int (.ofNat 3) 0),(.ref 372),(.bool true),(.int (.ofNat 181) 0),(.ref 373),.none,.none,.none,(.ref 374),(.int (.ofNat 699) 0),(.int (.ofNat 222) 0),(.str z1 700)]⟩),⟨[]⟩⟩
noncomputable def o376_8 (P : Params) : Obj := ⟨(.type "function"),none,(.func ⟨(sk [103,111,97,108]),(sk [71,114,97,109,109,97,114,84,114,101,101,46,103,111,97,108]),fP (TM 47 2),.stmts (fB (TM 47 2)),fS (TM 47 2),3,[],.none,.none,.none,(.str z6 578),none,(.ref 375),.none,0⟩),⟨[]⟩⟩
noncomputable def o377_8 (P : Params) : Obj := ⟨(.type "tuple"),none,(.seq ⟨[(.str (sk [110,111,100,101,115]) 702),(.str (sk [119,97,105,116,105,110,103]) 703)]⟩ 0),⟨[]⟩⟩
noncomputable def o378_8 (P : Params) : Obj := ⟨(.type "dict"),none,(.dict ⟨[⟨(PyData.keyHash P z13),(.str z13 669),(.str z6 578)⟩,⟨(PyData.keyHash P z5),(.str z5 673),(.int (.ofNat 207) 672)⟩,⟨(PyData.keyHash P z8),(.str z8 683),(.ref 364)⟩,⟨(PyData.keyHash P (sk [104,111,108,100])),(.str (sk [104,111,108,100]) 695),(.ref 371)⟩,⟨(PyData.keyHash P (sk [103,111,97,108])),(.str (sk [103,111,97,108]) 701),(.ref 376)⟩,⟨(PyData.keyHash P z3),(.str z3 704),(.ref 377)⟩,⟨(PyData.keyHash P z60),(.str z60 706),(.ref 380)⟩,⟨(PyData.keyHash P z29),(.str z29 708),(.ref 381)⟩,⟨(PyData.keyHash P z17),(.str z17 709),.none⟩]⟩ 4),⟨[]⟩⟩
noncomputable def o379_8 (P : Params) : Obj := ⟨(.type "type"),none,(.cls ⟨z43,[(.type "object")],[(.ref 379),(.type "object")],378,z43,true,[],[],false,none,false⟩),⟨[none,none,(some (.str z43 662)),(some (.str z43 670)),(some (.builtin "object.__new__")),(some (.bool true))]⟩⟩
noncomputable def o380_8 (P : Params) : Obj := ⟨(.type "getset_descriptor"),none,(.fields ⟨[(.str z60 705),(.ref 379),(.builtin "function.__dict__"),(.builtin "function.__dict__#set")]⟩),⟨[]⟩⟩
noncomputable def o381_8 (P : Params) : Obj := ⟨(.type "getset_descriptor"),none,(.fields ⟨[(.str z29 707),(.ref 379),(.builtin "ExceptionGroup.__weakref__"),.none]⟩),⟨[]⟩⟩
noncomputable def o382_8 (P : Params) : Obj := ⟨(.type "super"),none,(.fields ⟨[(.ref 379),(.ref 379),(.ref 379)]⟩),⟨[]⟩⟩
noncomputable def o383_8 (P : Params) : Obj := ⟨(.type "builtin_function_or_method"),none,(.fields ⟨[(.builtin "object.__init_subclass__"),(.ref 379)]⟩),⟨[]⟩⟩
noncomputable def o384_8 (P : Params) : Obj := ⟨(.type "tuple"),none,(.seq ⟨[]⟩ 0),⟨[]⟩⟩
noncomputable def o385_8 (P : Params) : Obj := ⟨.none,none,(.fields ⟨[]⟩),⟨[]⟩⟩
noncomputable def o386_8 (P : Params) : Obj := ⟨(.type "tuple"),none,(.seq ⟨[(.str (sk [115,121,109,98,111,108,115]) 715),(.str (sk [116,101,114,109]) 716),(.str (sk [102,105,114,115,116]) 717),(.str (sk [108,97,115,116]) 718),(.str (sk [110,101,119]) 719),(.str (sk [116,114,101,101]) 720),(.str (sk [112,108,97,99,101]) 721),(.str (sk [112,97,114,116]) 722),(.str (sk [104,101,114,101]) 723),(.str (sk [116,104,101,114,101]) 724)]⟩ 0),⟨[]⟩⟩
noncomputable def o387_8 (P : Params) : Obj := ⟨(.type "tuple"),none,(.seq ⟨[]⟩ 0),⟨[]⟩⟩
noncomputable def o388_8 (P : Params) : Obj := ⟨.none,none,(.func ⟨z44,z44,fP (T 48),.stmts (fB (T 48)),fS (T 48),0,[],.none,.none,.none,.none,none,.none,.none,0⟩),⟨[]⟩⟩
noncomputable def o389_8 (P : Params) : Obj := ⟨(.type "code"),none,(.fields ⟨[(.str z44 712),(.str z44 713),(.str z1 714),(.int (.ofNat 242) 0),(.int (.ofNat 5) 0),(.int (.ofNat 0) 0),(.int (.ofNat 0) 0),(.int (.ofNat 3) 0),(.ref 384),(.bool true),(.int (.ofNat 181) 0),(.ref 385),.none,(.ref 386),(.ref 387),(.ref 388),(.int (.ofNat 725) 0),(.int (.ofNat 242) 0),(.str z1 726)]⟩),⟨[]⟩⟩
noncomputable def o390_8 (P : Params) : Obj := ⟨(.type "function"),none,(.func ⟨z44,z44,fP (T 48),.stmts (fB (T 48)),fS (T 48),3,[],.none,.none,.none,(.str z6 578),none,(.ref 389),.none,0⟩),⟨[]⟩⟩
noncomputable def o391_8 (P : Params) : Obj := ⟨(.type "tuple"),none,(.seq ⟨[]⟩ 0),⟨[]⟩⟩
noncomputable def o392_8 (P : Params) : Obj := ⟨.none,none,(.fields ⟨[]⟩),⟨[]⟩⟩
noncomputable def o393_8 (P : Params) : Obj := ⟨.none,none,(.func ⟨z45,z45,fP (T 49),.stmts (fB (T 49)),fS (T 49),0,[],.none,.none,.none,.none,none,.none,.none,0⟩),⟨[]⟩⟩
noncomputable def o394_8 (P : Params) : Obj := ⟨(.type "code"),none,(.fields ⟨[(.str z45 728),(.str z45 729),(.str z1 730),(.int (.ofNat 248) 0),(.int (.ofNat 6) 0),(.int (.ofNat 0) 0),(.int (.ofNat 0) 0),(.int (.ofNat 3) 0),(.ref 391),(.bool true),(.int (.ofNat 181) 0),(.ref 392),.none,.none,.none,(.ref 393),(.int (.ofNat 731) 0),(.int (.ofNat 248) 0),(.str z1 732)]⟩),⟨[]⟩⟩
noncomputable def o395_8 (P : Params) : Obj := ⟨(.type "function"),none,(.func ⟨z45,z45,fP (T 49),.stmts (fB (T 49)),fS (T 49),3,[],.none,.none,.none,(.str z6 578),none,(.ref 394),.none,0⟩),⟨[]⟩⟩
noncomputable def o396_8 (P : Params) : Obj := ⟨(.type "tuple"),none,(.seq ⟨[]⟩ 0),⟨[]⟩⟩
noncomputable def o397_8 (P : Params) : Obj := ⟨.none,none,(.fields ⟨[]⟩),⟨[]⟩⟩
noncomputable def o398_8 (P : Params) : Obj := ⟨(.type "tuple"),none,(.seq ⟨[(.str (sk [115,121,109,98,111,108,115]) 737),(.str (sk [116,101,114,109]) 738),(.str (sk [102,105,114,115,116]) 739),(.str (sk [108,97,115,116]) 740),(.str (sk [115,97,109,101]) 741),(.str (sk [102]) 742)]⟩ 0),⟨[]⟩⟩
noncomputable def o399_8 (P : Params) : Obj := ⟨(.type "tuple"),none,(.seq ⟨[]⟩ 0),⟨[]⟩⟩
noncomputable def o400_8 (P : Params) : Obj := ⟨.none,none,(.func ⟨z54,z54,fP (T 50),.stmts (fB (T 50)),fS (T 50),0,[],.none,.none,.none,.none,none,.none,.none,0⟩),⟨[]⟩⟩
noncomputable def o401_8 (P : Params) : Obj := ⟨(.type "code"),none,(.fields ⟨[(.str z54 734),(.str z54 735),(.str z1 736),(.int (.ofNat 276) 0),(.int (.ofNat 4) 0),(.int (.ofNat 0) 0),(.int (.ofNat 0) 0),(.int (.ofNat 3) 0),(.ref 396),(.bool true),(.int (.ofNat 181) 0),(.ref 397),.none,(.ref 398),(.ref 399),(.ref 400),(.int (.ofNat 743) 0),(.int (.ofNat 276) 0),(.str z1 744)]⟩),⟨[]⟩⟩
noncomputable def o402_8 (P : Params) : Obj := ⟨(.type "function"),none,(.func ⟨z54,z54,fP (T 50),.stmts (fB (T 50)),fS (T 50),3,[],.none,.none,.none,(.str z6 578),none,(.ref 401),.none,0⟩),⟨[]⟩⟩
noncomputable def tree8 (P : Params) : BT := (.node (PySem.W.boot_o_0 P) (.node (PySem.W.boot_o_1 P) (.node (o3_8 P) (.node (PySem.W.boot_o_7 P) (.node (o15_1 P) (.node (o31_2 P) (.node (o63_3 P) (.node (o127_4 P) (.node (o255_6 P) .nil .nil) (.node (o383_8 P) .nil .nil)) (.node (o191_5 P) (.node (o319_7 P) .nil .nil) .nil)) (.node (o95_4 P) (.node (o159_5 P) (.node (o287_6 P) .nil .nil) .nil) (.node (o223_5 P) (.node (o351_8 P) .nil .nil) .nil))) (.node (o47_2 P) (.node (o79_4 P) (.node (o143_4 P) (.node (o271_6 P) .nil .nil) (.node (o399_8 P) .nil .nil)) (.node (o207_5 P) (.node (o335_7 P) .nil .nil) .nil)) (.node (o111_4 P) (.node (o175_5 P) (.node (o303_7 P) .nil .nil) .nil) (.node (o239_5 P) (.node (o367_8 P) .nil .nil) .nil)))) (.node (o23_1 P) (.node (o39_2 P) (.node (o71_4 P) (.node (o135_4 P) (.node (o263_6 P) .nil .nil) (.node (o391_8 P) .nil .nil)) (.node (o199_5 P) (.node (o327_7 P) .nil .nil) .nil)) (.node (o103_4 P) (.node (o167_5 P) (.node (o295_6 P) .nil .nil) .nil) (.node (o231_5 P) (.node (o359_8 P) .nil .nil) .nil))) (.node (o55_3 P) (.node (o87_4 P) (.node (o151_4 P) (.node (o279_6 P) .nil .nil) .nil) (.node (o215_5 P) (.node (o343_7 P) .nil .nil) .nil)) (.node (o119_4 P) (.node (o183_5 P) (.node (o311_7 P) .nil .nil) .nil) (.node (o247_6 P) (.node (o375_8 P) .nil .nil) .nil))))) (.node (o11a P) (.node (o19_1 P) (.node (o35_2 P) (.node (o67_3 P) (.node (o131_4 P) (.node (o259_6 P) .nil .nil) (.node (o387_8 P) .nil .nil)) (.node (o195_5 P) (.node (o323_7 P) .nil .nil) .nil)) (.node (o99_4 P) (.node (o163_5 P) (.node (o291_6 P) .nil .nil) .nil) (.node (o227_5 P) (.node (o355_8 P) .nil .nil) .nil))) (.node (o51_2 P) (.node (o83_4 P) (.node (o147_4 P) (.node (o275_6 P) .nil .nil) .nil) (.node (o211_5 P) (.node (o339_7 P) .nil .nil) .nil)) (.node (o115_4 P) (.node (o179_5 P) (.node (o307_7 P) .nil .nil) .nil) (.node (o243_5 P) (.node (o371_8 P) .nil .nil) .nil)))) (.node (o27_1 P) (.node (o43_2 P) (.node (o75_4 P) (.node (o139_4 P) (.node (o267_6 P) .nil .nil) (.node (o395_8 P) .nil .nil)) (.node (o203_5 P) (.node (o331_7 P) .nil .nil) .nil)) (.node (o107_4 P) (.node (o171_5 P) (.node (o299_6 P) .nil .nil) .nil) (.node (o235_5 P) (.node (o363_8 P) .nil .nil) .nil))) (.node (o59_3 P) (.node (o91_4 P) (.node (o155_4 P) (.node (o283_6 P) .nil .nil) .nil) (.node (o219_5 P) (.node (o347_7 P) .nil .nil) .nil)) (.node (o123_4 P) (.node (o187_5 P) (.node (o315_7 P) .nil .nil) .nil) (.node (o251_6 P) (.node (o379_8 P) .nil .nil) .nil)))))) (.node (PySem.W.boot_o_5 P) (.node (PySem.W.boot_o_9 P) (.node (o17_1 P) (.node (o33_1 P) (.node (o65_3 P) (.node (o129_4 P) (.node (o257_6 P) .nil .nil) (.node (o385_8 P) .nil .nil)) (.node (o193_5 P) (.node (o321_7 P) .nil .nil) .nil)) (.node (o97_4 P) (.node (o161_5 P) (.node (o289_6 P) .nil .nil) .nil) (.node (o225_5 P) (.node (o353_8 P) .nil .nil) .nil))) (.node (o49_2 P) (.node (o81_4 P) (.node (o145_4 P) (.node (o273_6 P) .nil .nil) (.node (o401_8 P) .nil .nil)) (.node (o209_5 P) (.node (o337_7 P) .nil .nil) .nil)) (.node (o113_4 P) (.node (o177_5 P) (.node (o305_7 P) .nil .nil) .nil) (.node (o241_5 P) (.node (o369_8 P) .nil .nil) .nil)))) (.node (o25_1 P) (.node (o41_2 P) (.node (o73_4 P) (.node (o137_4 P) (.node (o265_6 P) .nil .nil) (.node (o393_8 P) .nil .nil)) (.node (o201_5 P) (.node (o329_7 P) .nil .nil) .nil)) (.node (o105_4 P) (.node (o169_5 P) (.node (o297_6 P) .nil .nil) .nil) (.node (o233_5 P) (.node (o361_8 P) .nil .nil) .nil))) (.node (o57_3 P) (.node (o89_4 P) (.node (o153_4 P) (.node (o281_6 P) .nil .nil) .nil) (.node (o217_5 P) (.node (o345_7 P) .nil .nil) .nil)) (.node (o121_4 P) (.node (o185_5 P) (.node (o313_7 P) .nil .nil) .nil) (.node (o249_6 P) (.node (o377_8 P) .nil .nil) .nil))))) (.node (o13a P) (.node (o21_1 P) (.node (o37_2 P) (.node (o69_4 P) (.node (o133_4 P) (.node (o261_6 P) .nil .nil) (.node (o389_8 P) .nil .nil)) (.node (o197_5 P) (.node (o325_7 P) .nil .nil) .nil)) (.node (o101_4 P) (.node (o165_5 P) (.node (o293_6 P) .nil .nil) .nil) (.node (o229_5 P) (.node (o357_8 P) .nil .nil) .nil))) (.node (o53_2 P) (.node (o85_4 P) (.node (o149_4 P) (.node (o277_6 P) .nil .nil) .nil) (.node (o213_5 P) (.node (o341_7 P) .nil .nil) .nil)) (.node (o117_4 P) (.node (o181_5 P) (.node (o309_7 P) .nil .nil) .nil) (.node (o245_6 P) (.node (o373_8 P) .nil .nil) .nil)))) (.node (o29_1 P) (.node (o45_2 P) (.node (o77_4 P) (.node (o141_4 P) (.node (o269_6 P) .nil .nil) (.node (o397_8 P) .nil .nil)) (.node (o205_5 P) (.node (o333_7 P) .nil .nil) .nil)) (.node (o109_4 P) (.node (o173_5 P) (.node (o301_6 P) .nil .nil) .nil) (.node (o237_5 P) (.node (o365_8 P) .nil .nil) .nil))) (.node (o61_3 P) (.node (o93_4 P) (.node (o157_4 P) (.node (o285_6 P) .nil .nil) .nil) (.node (o221_5 P) (.node (o349_7 P) .nil .nil) .nil)) (.node (o125_4 P) (.node (o189_5 P) (.node (o317_7 P) .nil .nil) .nil) (.node (o253_6 P) (.node (o381_8 P) .nil .nil) .nil))))))) (.node (o2_1 P) (.node (PySem.W.boot_o_4 P) (.node (PySem.W.boot_o_8 P) (.node (o16_1 P) (.node (o32_1 P) (.node (o64_3 P) (.node (o128_4 P) (.node (o256_6 P) .nil .nil) (.node (o384_8 P) .nil .nil)) (.node (o192_5 P) (.node (o320_7 P) .nil .nil) .nil)) (.node (o96_4 P) (.node (o160_5 P) (.node (o288_6 P) .nil .nil) .nil) (.node (o224_5 P) (.node (o352_8 P) .nil .nil) .nil))) (.node (o48_2 P) (.node (o80_4 P) (.node (o144_4 P) (.node (o272_6 P) .nil .nil) (.node (o400_8 P) .nil .nil)) (.node (o208_5 P) (.node (o336_7 P) .nil .nil) .nil)) (.node (o112_4 P) (.node (o176_5 P) (.node (o304_7 P) .nil .nil) .nil) (.node (o240_5 P) (.node (o368_8 P) .nil .nil) .nil)))) (.node (o24_1 P) (.node (o40_2 P) (.node (o72_4 P) (.node (o136_4 P) (.node (o264_6 P) .nil .nil) (.node (o392_8 P) .nil .nil)) (.node (o200_5 P) (.node (o328_7 P) .nil .nil) .nil)) (.node (o104_4 P) (.node (o168_5 P) (.node (o296_6 P) .nil .nil) .nil) (.node (o232_5 P) (.node (o360_8 P) .nil .nil) .nil))) (.node (o56_3 P) (.node (o88_4 P) (.node (o152_4 P) (.node (o280_6 P) .nil .nil) .nil) (.node (o216_5 P) (.node (o344_7 P) .nil .nil) .nil)) (.node (o120_4 P) (.node (o184_5 P) (.node (o312_7 P) .nil .nil) .nil) (.node (o248_6 P) (.node (o376_8 P) .nil .nil) .nil))))) (.node (o12_8 P) (.node (o20_1 P) (.node (o36_2 P) (.node (o68_4 P) (.node (o132_4 P) (.node (o260_6 P) .nil .nil) (.node (o388_8 P) .nil .nil)) (.node (o196_5 P) (.node (o324_7 P) .nil .nil) .nil)) (.node (o100_4 P) (.node (o164_5 P) (.node (o292_6 P) .nil .nil) .nil) (.node (o228_5 P) (.node (o356_8 P) .nil .nil) .nil))) (.node (o52_2 P) (.node (o84_4 P) (.node (o148_4 P) (.node (o276_6 P) .nil .nil) .nil) (.node (o212_5 P) (.node (o340_7 P) .nil .nil) .nil)) (.node (o116_4 P) (.node (o180_5 P) (.node (o308_7 P) .nil .nil) .nil) (.node (o244_5 P) (.node (o372_8 P) .nil .nil) .nil)))) (.node (o28_1 P) (.node (o44_2 P) (.node (o76_4 P) (.node (o140_4 P) (.node (o268_6 P) .nil .nil) (.node (o396_8 P) .nil .nil)) (.node (o204_5 P) (.node (o332_7 P) .nil .nil) .nil)) (.node (o108_4 P) (.node (o172_5 P) (.node (o300_6 P) .nil .nil) .nil) (.node (o236_5 P) (.node (o364_8 P) .nil .nil) .nil))) (.node (o60_3 P) (.node (o92_4 P) (.node (o156_4 P) (.node (o284_6 P) .nil .nil) .nil) (.node (o220_5 P) (.node (o348_7 P) .nil .nil) .nil)) (.node (o124_4 P) (.node (o188_5 P) (.node (o316_7 P) .nil .nil) .nil) (.node (o252_6 P) (.node (o380_8 P) .nil .nil) .nil)))))) (.node (PySem.W.boot_o_6 P) (.node (PySem.W.boot_o_10 P) (.node (o18_1 P) (.node (o34_1 P) (.node (o66_3 P) (.node (o130_4 P) (.node (o258_6 P) .nil .nil) (.node (o386_8 P) .nil .nil)) (.node (o194_5 P) (.node (o322_7 P) .nil .nil) .nil)) (.node (o98_4 P) (.node (o162_5 P) (.node (o290_6 P) .nil .nil) .nil) (.node (o226_5 P) (.node (o354_8 P) .nil .nil) .nil))) (.node (o50_2 P) (.node (o82_4 P) (.node (o146_4 P) (.node (o274_6 P) .nil .nil) (.node (o402_8 P) .nil .nil)) (.node (o210_5 P) (.node (o338_7 P) .nil .nil) .nil)) (.node (o114_4 P) (.node (o178_5 P) (.node (o306_7 P) .nil .nil) .nil) (.node (o242_5 P) (.node (o370_8 P) .nil .nil) .nil)))) (.node (o26_1 P) (.node (o42_2 P) (.node (o74_4 P) (.node (o138_4 P) (.node (o266_6 P) .nil .nil) (.node (o394_8 P) .nil .nil)) (.node (o202_5 P) (.node (o330_7 P) .nil .nil) .nil)) (.node (o106_4 P) (.node (o170_5 P) (.node (o298_6 P) .nil .nil) .nil) (.node (o234_5 P) (.node (o362_8 P) .nil .nil) .nil))) (.node (o58_3 P) (.node (o90_4 P) (.node (o154_4 P) (.node (o282_6 P) .nil .nil) .nil) (.node (o218_5 P) (.node (o346_7 P) .nil .nil) .nil)) (.node (o122_4 P) (.node (o186_5 P) (.node (o314_7 P) .nil .nil) .nil) (.node (o250_6 P) (.node (o378_8 P) .nil .nil) .nil))))) (.node (o14a P) (.node (o22_1 P) (.node (o38_2 P) (.node (o70_4 P) (.node (o134_4 P) (.node (o262_6 P) .nil .nil) (.node (o390_8 P) .nil .nil)) (.node (o198_5 P) (.node (o326_7 P) .nil .nil) .nil)) (.node (o102_4 P) (.node (o166_5 P) (.node (o294_6 P) .nil .nil) .nil) (.node (o230_5 P) (.node (o358_8 P) .nil .nil) .nil))) (.node (o54_3 P) (.node (o86_4 P) (.node (o150_4 P) (.node (o278_6 P) .nil .nil) .nil) (.node (o214_5 P) (.node (o342_7 P) .nil .nil) .nil)) (.node (o118_4 P) (.node (o182_5 P) (.node (o310_7 P) .nil .nil) .nil) (.node (o246_6 P) (.node (o374_8 P) .nil .nil) .nil)))) (.node (o30_1 P) (.node (o46_2 P) (.node (o78_4 P) (.node (o142_4 P) (.node (o270_6 P) .nil .nil) (.node (o398_8 P) .nil .nil)) (.node (o206_5 P) (.node (o334_7 P) .nil .nil) .nil)) (.node (o110_4 P) (.node (o174_5 P) (.node (o302_7 P) .nil .nil) .nil) (.node (o238_5 P) (.node (o366_8 P) .nil .nil) .nil))) (.node (o62_3 P) (.node (o94_4 P) (.node (o158_4 P) (.node (o286_6 P) .nil .nil) .nil) (.node (o222_5 P) (.node (o350_7 P) .nil .nil) .nil)) (.node (o126_4 P) (.node (o190_5 P) (.node (o318_7 P) .nil .nil) .nil) (.node (o254_6 P) (.node (o382_8 P) .nil .nil) .nil))))))))
noncomputable abbrev S8 (w : World) (os : OsState) : SharedT := ⟨tree8 w.params,403,life0,⟨[]⟩,PySem.W.boot_drawn,748,os⟩
noncomputable def sts8 : List Stmt := [T 47,T 48,T 49,T 50,T 51]
theorem pc8 (w : World) (os : OsState) : segRunT treeTable PT w 11 ann0 1 397 (S7 w os) (piecesOf sts8 env0 cE ⟨200, 0, 206, 59⟩ [topFrame q0]) = some (.next, S8 w os, cE, ⟨294, 0, 294, 8⟩) := by
  rw [show @segRunT = _ from PySem.W.Fast.te10110043849684766642, show @treeTable = _ from PySem.W.Fast.te14364793385576792824]
  delta piecesOf
  rw [show @execs = _ from PySem.W.Fast.te12563942051412417395]
  kernel_rfl
noncomputable def o3_9 (P : Params) : Obj := ⟨(.type "dict"),none,(.dict ⟨[⟨(PyData.keyHash P z37),(.str z37 165),(.str z52 746)⟩,⟨(PyData.keyHash P z17),(.str z17 166),.none⟩,⟨(PyData.keyHash P z21),(.str z21 167),.none⟩,⟨(PyData.keyHash P z23),(.str z23 168),(.builtin "__main__.__loader__#opaque")⟩,⟨(PyData.keyHash P z38),(.str z38 169),.none⟩,⟨(PyData.keyHash P z11),(.str z11 170),(.ref 6)⟩,⟨(PyData.keyHash P z15),(.str z15 171),(.ref 4)⟩,⟨(PyData.keyHash P z34),(.str z34 173),(.str z1 172)⟩,⟨(PyData.keyHash P z27),(.str z27 174),.none⟩,⟨(PyData.keyHash P z41),(.str z41 193),(.ref 21)⟩,⟨(PyData.keyHash P z4),(.str z4 215),(.ref 31)⟩,⟨(PyData.keyHash P z10),(.str z10 240),(.ref 51)⟩,⟨(PyData.keyHash P (sk [65,95,78,73,76])),(.str (sk [65,95,78,73,76]) 242),(.int (.ofNat 0) 241)⟩,⟨(PyData.keyHash P (sk [65,95,66,65,82])),(.str (sk [65,95,66,65,82]) 244),(.int (.ofNat 8) 243)⟩,⟨(PyData.keyHash P (sk [65,95,67,85,84])),(.str (sk [65,95,67,85,84]) 246),(.int (.ofNat 15) 245)⟩,⟨(PyData.keyHash P (sk [65,95,84,82,85,69])),(.str (sk [65,95,84,82,85,69]) 248),(.int (.ofNat 16) 247)⟩,⟨(PyData.keyHash P z50),(.str z50 250),(.int (.ofNat 25) 249)⟩,⟨(PyData.keyHash P (sk [70,95,68,79,84])),(.str (sk [70,95,68,79,84]) 252),(.int (.ofNat 0) 251)⟩,⟨(PyData.keyHash P z55),(.str z55 254),(.int (.ofNat 1) 253)⟩,⟨(PyData.keyHash P (sk [70,95,83,69,77,73])),(.str (sk [70,95,83,69,77,73]) 256),(.int (.ofNat 2) 255)⟩,⟨(PyData.keyHash P z56),(.str z56 258),(.int (.ofNat 3) 257)⟩,⟨(PyData.keyHash P (sk [70,95,78,79,84])),(.str (sk [70,95,78,79,84]) 260),(.int (.ofNat 4) 259)⟩,⟨(PyData.keyHash P (sk [70,95,78,69,67,75])),(.str (sk [70,95,78,69,67,75]) 262),(.int (.ofNat 5) 261)⟩,⟨(PyData.keyHash P z42),(.str z42 264),(.int (.ofNat 8) 263)⟩,⟨(PyData.keyHash P z57),(.str z57 266),(.int (.ofNat 9) 265)⟩,⟨(PyData.keyHash P z58),(.str z58 268),(.int (.ofNat 10) 267)⟩,⟨(PyData.keyHash P z59),(.str z59 270),(.int (.ofNat 16) 269)⟩,⟨(PyData.keyHash P z14),(.str z14 276),(.ref 60)⟩,⟨(PyData.keyHash P z7),(.str z7 282),(.ref 67)⟩,⟨(PyData.keyHash P z35),(.str z35 401),(.ref 154)⟩,⟨(PyData.keyHash P (sk [78,73,76])),(.str (sk [78,73,76]) 405),(.ref 159)⟩,⟨(PyData.keyHash P (sk [118,97,114])),(.str (sk [118,97,114]) 412),(.ref 166)⟩,⟨(PyData.keyHash P z49),(.str z49 419),(.ref 173)⟩,⟨(PyData.keyHash P z51),(.str z51 427),(.ref 180)⟩,⟨(PyData.keyHash P z30),(.str z30 437),(.ref 188)⟩,⟨(PyData.keyHash P z24),(.str z24 445),(.ref 195)⟩,⟨(PyData.keyHash P z25),(.str z25 452),(.ref 202)⟩,⟨(PyData.keyHash P z26),(.str z26 460),(.ref 209)⟩,⟨(PyData.keyHash P z31),(.str z31 467),(.ref 216)⟩,⟨(PyData.keyHash P z33),(.str z33 474),(.ref 223)⟩,⟨(PyData.keyHash P z20),(.str z20 485),(.ref 230)⟩,⟨(PyData.keyHash P z22),(.str z22 494),(.ref 237)⟩,⟨(PyData.keyHash P z16),(.str z16 501),(.ref 244)⟩,⟨(PyData.keyHash P z40),(.str z40 512),(.ref 251)⟩,⟨(PyData.keyHash P z9),(.str z9 519),(.ref 258)⟩,⟨(PyData.keyHash P z32),(.str z32 528),(.ref 265)⟩,⟨(PyData.keyHash P (sk [70,114,101,115,104])),(.str (sk [70,114,101,115,104]) 568),(.ref 290)⟩,⟨(PyData.keyHash P z28),(.str z28 577),(.ref 301)⟩,⟨(PyData.keyHash P z19),(.str z19 618),(.ref 325)⟩,⟨(PyData.keyHash P z18),(.str z18 637),(.ref 336)⟩,⟨(PyData.keyHash P z36),(.str z36 649),(.ref 343)⟩,⟨(PyData.keyHash P z47),(.str z47 661),(.ref 350)⟩,⟨(PyData.keyHash P z43),(.str z43 711),(.ref 379)⟩,⟨(PyData.keyHash P z44),(.str z44 727),(.ref 390)⟩,⟨(PyData.keyHash P z45),(.str z45 733),(.ref 395)⟩,⟨(PyData.keyHash P z54),(.str z54 745),(.ref 402)⟩,⟨(PyData.keyHash P (sk [95,108,97,119,95,99,111,105,110,115])),(.str (sk [95,108,97,119,95,99,111,105,110,115]) 758),(.ref 409)⟩,⟨(PyData.keyHash P (sk [95,108,97,119,95,99,111,105,110])),(.str (sk [95,108,97,119,95,99,111,105,110]) 766),(.ref 416)⟩,⟨(PyData.keyHash P (sk [95,108,97,119,95,114,111,119])),(.str (sk [95,108,97,119,95,114,111,119]) 777),(.ref 423)⟩,⟨(PyData.keyHash P (sk [95,108,97,119,95,112,97,114,116])),(.str (sk [95,108,97,119,95,112,97,114,116]) 790),(.ref 430)⟩,⟨(PyData.keyHash P z46),(.str z46 799),(.ref 437)⟩,⟨(PyData.keyHash P z48),(.str z48 809),(.ref 444)⟩,⟨(PyData.keyHash P (sk [108,97,119])),(.str (sk [108,97,119]) 827),(.ref 451)⟩]⟩ 63),⟨[]⟩⟩
noncomputable def o12_9 (P : Params) : Obj := ⟨.none,none,(.fields ⟨[(.int (.ofNat 1) 0),(.int (.ofNat 0) 0),(.ref 20),(.int (.ofNat 5) 0),(.int (.ofNat 0) 0),(.ref 27),(.int (.ofNat 7) 0),(.int (.ofNat 0) 0),(.ref 40),(.int (.ofNat 26) 0),(.int (.ofNat 0) 0),(.ref 59),(.int (.ofNat 28) 0),(.int (.ofNat 0) 0),(.ref 66),(.int (.ofNat 30) 0),(.int (.ofNat 0) 0),(.ref 73),(.int (.ofNat 86) 0),(.int (.ofNat 0) 0),(.ref 165),(.int (.ofNat 88) 0),(.int (.ofNat 0) 0),(.ref 172),(.int (.ofNat 90) 0),(.int (.ofNat 0) 0),(.ref 179),(.int (.ofNat 92) 0),(.int (.ofNat 0) 0),(.ref 187),(.int (.ofNat 97) 0),(.int (.ofNat 0) 0),(.ref 194),(.int (.ofNat 103) 0),(.int (.ofNat 0) 0),(.ref 201),(.int (.ofNat 105) 0),(.int (.ofNat 0) 0),(.ref 208),(.int (.ofNat 109) 0),(.int (.ofNat 0) 0),(.ref 215),(.int (.ofNat 113) 0),(.int (.ofNat 0) 0),(.ref 222),(.int (.ofNat 115) 0),(.int (.ofNat 0) 0),(.ref 229),(.int (.ofNat 128) 0),(.int (.ofNat 0) 0),(.ref 236),(.int (.ofNat 135) 0),(.int (.ofNat 0) 0),(.ref 243),(.int (.ofNat 137) 0),(.int (.ofNat 0) 0),(.ref 250),(.int (.ofNat 142) 0),(.int (.ofNat 0) 0),(.ref 257),(.int (.ofNat 144) 0),(.int (.ofNat 0) 0),(.ref 264),(.int (.ofNat 147) 0),(.int (.ofNat 0) 0),(.ref 271),(.int (.ofNat 156) 0),(.int (.ofNat 0) 0),(.ref 300),(.int (.ofNat 164) 0),(.int (.ofNat 0) 0),(.ref 307),(.int (.ofNat 175) 0),(.int (.ofNat 0) 0),(.ref 335),(.int (.ofNat 196) 0),(.int (.ofNat 0) 0),(.ref 342),(.int (.ofNat 200) 0),(.int (.ofNat 0) 0),(.ref 349),(.int (.ofNat 207) 0),(.int (.ofNat 0) 0),(.ref 356),(.int (.ofNat 242) 0),(.int (.ofNat 0) 0),(.ref 389),(.int (.ofNat 248) 0),(.int (.ofNat 0) 0),(.ref 394),(.int (.ofNat 276) 0),(.int (.ofNat 0) 0),(.ref 401),(.int (.ofNat 295) 0),(.int (.ofNat 0) 0),(.ref 408),(.int (.ofNat 308) 0),(.int (.ofNat 0) 0),(.ref 415),(.int (.ofNat 310) 0),(.int (.ofNat 0) 0),(.ref 422),(.int (.ofNat 316) 0),(.int (.ofNat 0) 0),(.ref 429),(.int (.ofNat 330) 0),(.int (.ofNat 0) 0),(.ref 436),(.int (.ofNat 339) 0),(.int (.ofNat 0) 0),(.ref 443),(.int (.ofNat 353) 0),(.int (.ofNat 0) 0),(.ref 450)]⟩),⟨[]⟩⟩
noncomputable def o403_9 (P : Params) : Obj := ⟨(.type "tuple"),none,(.seq ⟨[]⟩ 0),⟨[]⟩⟩
noncomputable def o404_9 (P : Params) : Obj := ⟨.none,none,(.fields ⟨[]⟩),⟨[]⟩⟩
noncomputable def o405_9 (P : Params) : Obj := ⟨(.type "tuple"),none,(.seq ⟨[(.str (sk [115,99,114,105,112,116]) 751),(.str (sk [99,111,105,110,115]) 752),(.str (sk [99,101,108,108]) 753),(.str (sk [108,101,102,116]) 754),(.str (sk [108,97,112]) 755)]⟩ 0),⟨[]⟩⟩
noncomputable def o406_9 (P : Params) : Obj := ⟨(.type "tuple"),none,(.seq ⟨[]⟩ 0),⟨[]⟩⟩
noncomputable def o407_9 (P : Params) : Obj := ⟨.none,none,(.func ⟨(sk [95,108,97,119,95,99,111,105,110,115]),(sk [95,108,97,119,95,99,111,105,110,115]),fP (T 52),.stmts (fB (T 52)),fS (T 52),0,[],.none,.none,.none,.none,none,.none,.none,0⟩),⟨[]⟩⟩
noncomputable def o408_9 (P : Params) : Obj := ⟨(.type "code"),none,(.fields ⟨[(.str (sk [95,108,97,119,95,99,111,105,110,115]) 748),(.str (sk [95,108,97,119,95,99,111,105,110,115]) 749),(.str z1 750),(.int (.ofNat 295) 0),(.int (.ofNat 1) 0),(.int (.ofNat 0) 0),(.int (.ofNat 0) 0),(.int (.ofNat 3) 0),(.ref 403),(.bool true),(.int (.ofNat 181) 0),(.ref 404),.none,(.ref 405),(.ref 406),(.ref 407),(.int (.ofNat 756) 0),(.int (.ofNat 295) 0),(.str z1 757)]⟩),⟨[]⟩⟩
noncomputable def o409_9 (P : Params) : Obj := ⟨(.type "function"),none,(.func ⟨(sk [95,108,97,119,95,99,111,105,110,115]),(sk [95,108,97,119,95,99,111,105,110,115]),fP (T 52),.stmts (fB (T 52)),fS (T 52),3,[],.none,.none,.none,(.str z52 746),none,(.ref 408),.none,0⟩),⟨[]⟩⟩
noncomputable def o410_9 (P : Params) : Obj := ⟨(.type "tuple"),none,(.seq ⟨[]⟩ 0),⟨[]⟩⟩
noncomputable def o411_9 (P : Params) : Obj := ⟨.none,none,(.fields ⟨[]⟩),⟨[]⟩⟩
noncomputable def o412_9 (P : Params) : Obj := ⟨(.type "tuple"),none,(.seq ⟨[(.str (sk [99,111,105,110,115]) 762),(.str (sk [115,105,100,101,115]) 763)]⟩ 0),⟨[]⟩⟩
noncomputable def o413_9 (P : Params) : Obj := ⟨(.type "tuple"),none,(.seq ⟨[]⟩ 0),⟨[]⟩⟩
noncomputable def o414_9 (P : Params) : Obj := ⟨.none,none,(.func ⟨(sk [95,108,97,119,95,99,111,105,110]),(sk [95,108,97,119,95,99,111,105,110]),fP (T 53),.stmts (fB (T 53)),fS (T 53),0,[],.none,.none,.none,.none,none,.none,.none,0⟩),⟨[]⟩⟩
noncomputable def o415_9 (P : Params) : Obj := ⟨(.type "code"),none,(.fields ⟨[(.str (sk [95,108,97,119,95,99,111,105,110]) 759),(.str (sk [95,108,97,119,95,99,111,105,110]) 760),(.str z1 761),(.int (.ofNat 308) 0),(.int (.ofNat 2) 0),(.int (.ofNat 0) 0),(.int (.ofNat 0) 0),(.int (.ofNat 3) 0),(.ref 410),(.bool true),(.int (.ofNat 181) 0),(.ref 411),.none,(.ref 412),(.ref 413),(.ref 414),(.int (.ofNat 764) 0),(.int (.ofNat 308) 0),(.str z1 765)]⟩),⟨[]⟩⟩
noncomputable def o416_9 (P : Params) : Obj := ⟨(.type "function"),none,(.func ⟨(sk [95,108,97,119,95,99,111,105,110]),(sk [95,108,97,119,95,99,111,105,110]),fP (T 53),.stmts (fB (T 53)),fS (T 53),3,[],.none,.none,.none,(.str z52 746),none,(.ref 415),.none,0⟩),⟨[]⟩⟩
noncomputable def o417_9 (P : Params) : Obj := ⟨(.type "tuple"),none,(.seq ⟨[]⟩ 0),⟨[]⟩⟩
noncomputable def o418_9 (P : Params) : Obj := ⟨.none,none,(.fields ⟨[]⟩),⟨[]⟩⟩
noncomputable def o419_9 (P : Params) : Obj := ⟨(.type "tuple"),none,(.seq ⟨[(.str (sk [99,111,105,110,115]) 770),(.str (sk [115,105,103,110,115]) 771),(.str (sk [119,97,121]) 772),(.str (sk [101,110,100,105,110,103]) 773),(.str (sk [108,97,112]) 774)]⟩ 0),⟨[]⟩⟩
noncomputable def o420_9 (P : Params) : Obj := ⟨(.type "tuple"),none,(.seq ⟨[]⟩ 0),⟨[]⟩⟩
noncomputable def o421_9 (P : Params) : Obj := ⟨.none,none,(.func ⟨(sk [95,108,97,119,95,114,111,119]),(sk [95,108,97,119,95,114,111,119]),fP (T 54),.stmts (fB (T 54)),fS (T 54),0,[],.none,.none,.none,.none,none,.none,.none,0⟩),⟨[]⟩⟩
noncomputable def o422_9 (P : Params) : Obj := ⟨(.type "code"),none,(.fields ⟨[(.str (sk [95,108,97,119,95,114,111,119]) 767),(.str (sk [95,108,97,119,95,114,111,119]) 768),(.str z1 769),(.int (.ofNat 310) 0),(.int (.ofNat 2) 0),(.int (.ofNat 0) 0),(.int (.ofNat 0) 0),(.int (.ofNat 3) 0),(.ref 417),(.bool true),(.int (.ofNat 181) 0),(.ref 418),.none,(.ref 419),(.ref 420),(.ref 421),(.int (.ofNat 775) 0),(.int (.ofNat 310) 0),(.str z1 776)]⟩),⟨[]⟩⟩
noncomputable def o423_9 (P : Params) : Obj := ⟨(.type "function"),none,(.func ⟨(sk [95,108,97,119,95,114,111,119]),(sk [95,108,97,119,95,114,111,119]),fP (T 54),.stmts (fB (T 54)),fS (T 54),3,[],.none,.none,.none,(.str z52 746),none,(.ref 422),.none,0⟩),⟨[]⟩⟩
noncomputable def o424_9 (P : Params) : Obj := ⟨(.type "tuple"),none,(.seq ⟨[]⟩ 0),⟨[]⟩⟩
noncomputable def o425_9 (P : Params) : Obj := ⟨.none,none,(.fields ⟨[]⟩),⟨[]⟩⟩
noncomputable def o426_9 (P : Params) : Obj := ⟨(.type "tuple"),none,(.seq ⟨[(.str (sk [99,111,105,110,115]) 781),(.str (sk [115,105,103,110,115]) 782),(.str (sk [100,101,101,112]) 783),(.str (sk [119,97,121]) 784),(.str (sk [114,111,119,115]) 785),(.str (sk [108,101,102,116]) 786),(.str (sk [106,111,105,110,116]) 787)]⟩ 0),⟨[]⟩⟩
noncomputable def o427_9 (P : Params) : Obj := ⟨(.type "tuple"),none,(.seq ⟨[]⟩ 0),⟨[]⟩⟩
noncomputable def o428_9 (P : Params) : Obj := ⟨.none,none,(.func ⟨(sk [95,108,97,119,95,112,97,114,116]),(sk [95,108,97,119,95,112,97,114,116]),fP (T 55),.stmts (fB (T 55)),fS (T 55),0,[],.none,.none,.none,.none,none,.none,.none,0⟩),⟨[]⟩⟩
noncomputable def o429_9 (P : Params) : Obj := ⟨(.type "code"),none,(.fields ⟨[(.str (sk [95,108,97,119,95,112,97,114,116]) 778),(.str (sk [95,108,97,119,95,112,97,114,116]) 779),(.str z1 780),(.int (.ofNat 316) 0),(.int (.ofNat 3) 0),(.int (.ofNat 0) 0),(.int (.ofNat 0) 0),(.int (.ofNat 3) 0),(.ref 424),(.bool true),(.int (.ofNat 181) 0),(.ref 425),.none,(.ref 426),(.ref 427),(.ref 428),(.int (.ofNat 788) 0),(.int (.ofNat 316) 0),(.str z1 789)]⟩),⟨[]⟩⟩
noncomputable def o430_9 (P : Params) : Obj := ⟨(.type "function"),none,(.func ⟨(sk [95,108,97,119,95,112,97,114,116]),(sk [95,108,97,119,95,112,97,114,116]),fP (T 55),.stmts (fB (T 55)),fS (T 55),3,[],.none,.none,.none,(.str z52 746),none,(.ref 429),.none,0⟩),⟨[]⟩⟩
noncomputable def o431_9 (P : Params) : Obj := ⟨(.type "tuple"),none,(.seq ⟨[]⟩ 0),⟨[]⟩⟩
noncomputable def o432_9 (P : Params) : Obj := ⟨.none,none,(.fields ⟨[]⟩),⟨[]⟩⟩
noncomputable def o433_9 (P : Params) : Obj := ⟨(.type "tuple"),none,(.seq ⟨[(.str (sk [115,105,103,110,115]) 794),(.str (sk [116,101,114,109]) 795),(.str (sk [101,110,100]) 796)]⟩ 0),⟨[]⟩⟩
noncomputable def o434_9 (P : Params) : Obj := ⟨(.type "tuple"),none,(.seq ⟨[]⟩ 0),⟨[]⟩⟩
noncomputable def o435_9 (P : Params) : Obj := ⟨.none,none,(.func ⟨z46,z46,fP (T 56),.stmts (fB (T 56)),fS (T 56),0,[],.none,.none,.none,.none,none,.none,.none,0⟩),⟨[]⟩⟩
noncomputable def o436_9 (P : Params) : Obj := ⟨(.type "code"),none,(.fields ⟨[(.str z46 791),(.str z46 792),(.str z1 793),(.int (.ofNat 330) 0),(.int (.ofNat 2) 0),(.int (.ofNat 0) 0),(.int (.ofNat 0) 0),(.int (.ofNat 3) 0),(.ref 431),(.bool true),(.int (.ofNat 181) 0),(.ref 432),.none,(.ref 433),(.ref 434),(.ref 435),(.int (.ofNat 797) 0),(.int (.ofNat 330) 0),(.str z1 798)]⟩),⟨[]⟩⟩
noncomputable def o437_9 (P : Params) : Obj := ⟨(.type "function"),none,(.func ⟨z46,z46,fP (T 56),.stmts (fB (T 56)),fS (T 56),3,[],.none,.none,.none,(.str z52 746),none,(.ref 436),.none,0⟩),⟨[]⟩⟩
noncomputable def o438_9 (P : Params) : Obj := ⟨(.type "tuple"),none,(.seq ⟨[]⟩ 0),⟨[]⟩⟩
noncomputable def o439_9 (P : Params) : Obj := ⟨.none,none,(.fields ⟨[]⟩),⟨[]⟩⟩
noncomputable def o440_9 (P : Params) : Obj := ⟨(.type "tuple"),none,(.seq ⟨[(.str (sk [115,105,103,110,115]) 803),(.str (sk [116,101,114,109]) 804),(.str (sk [112,97,114,116]) 805),(.str (sk [102,97,117,108,116]) 806)]⟩ 0),⟨[]⟩⟩
noncomputable def o441_9 (P : Params) : Obj := ⟨(.type "tuple"),none,(.seq ⟨[]⟩ 0),⟨[]⟩⟩
noncomputable def o442_9 (P : Params) : Obj := ⟨.none,none,(.func ⟨z48,z48,fP (T 57),.stmts (fB (T 57)),fS (T 57),0,[],.none,.none,.none,.none,none,.none,.none,0⟩),⟨[]⟩⟩
noncomputable def o443_9 (P : Params) : Obj := ⟨(.type "code"),none,(.fields ⟨[(.str z48 800),(.str z48 801),(.str z1 802),(.int (.ofNat 339) 0),(.int (.ofNat 2) 0),(.int (.ofNat 0) 0),(.int (.ofNat 0) 0),(.int (.ofNat 3) 0),(.ref 438),(.bool true),(.int (.ofNat 181) 0),(.ref 439),.none,(.ref 440),(.ref 441),(.ref 442),(.int (.ofNat 807) 0),(.int (.ofNat 339) 0),(.str z1 808)]⟩),⟨[]⟩⟩
noncomputable def o444_9 (P : Params) : Obj := ⟨(.type "function"),none,(.func ⟨z48,z48,fP (T 57),.stmts (fB (T 57)),fS (T 57),3,[],.none,.none,.none,(.str z52 746),none,(.ref 443),.none,0⟩),⟨[]⟩⟩
noncomputable def o445_9 (P : Params) : Obj := ⟨(.type "tuple"),none,(.seq ⟨[]⟩ 0),⟨[]⟩⟩
noncomputable def o446_9 (P : Params) : Obj := ⟨.none,none,(.fields ⟨[]⟩),⟨[]⟩⟩
noncomputable def o447_9 (P : Params) : Obj := ⟨(.type "tuple"),none,(.seq ⟨[(.str (sk [115,99,114,105,112,116]) 813),(.str (sk [99,111,105,110,115]) 814),(.str (sk [115,105,103,110,115]) 815),(.str (sk [104,101,97,100,115]) 816),(.str (sk [104,101,97,100]) 817),(.str (sk [119,97,121]) 818),(.str (sk [112,117,115,104,101,100]) 819),(.str (sk [98,111,100,121]) 820),(.str (sk [100,117,101]) 821),(.str (sk [108,101,102,116]) 822),(.str (sk [116,111,108,100]) 823),(.str (sk [101,114,114,111,114]) 824)]⟩ 0),⟨[]⟩⟩
noncomputable def o448_9 (P : Params) : Obj := ⟨(.type "tuple"),none,(.seq ⟨[]⟩ 0),⟨[]⟩⟩
noncomputable def o449_9 (P : Params) : Obj := ⟨.none,none,(.func ⟨(sk [108,97,119]),(sk [108,97,119]),fP (T 58),.stmts (fB (T 58)),fS (T 58),0,[],.none,.none,.none,.none,none,.none,.none,0⟩),⟨[]⟩⟩
noncomputable def o450_9 (P : Params) : Obj := ⟨(.type "code"),none,(.fields ⟨[(.str (sk [108,97,119]) 810),(.str (sk [108,97,119]) 811),(.str z1 812),(.int (.ofNat 353) 0),(.int (.ofNat 1) 0),(.int (.ofNat 0) 0),(.int (.ofNat 0) 0),(.int (.ofNat 3) 0),(.ref 445),(.bool true),(.int (.ofNat 181) 0),(.ref 446),.none,(.ref 447),(.ref 448),(.ref 449),(.int (.ofNat 825) 0),(.int (.ofNat 353) 0),(.str z1 826)]⟩),⟨[]⟩⟩
noncomputable def o451_9 (P : Params) : Obj := ⟨(.type "function"),none,(.func ⟨(sk [108,97,119]),(sk [108,97,119]),fP (T 58),.stmts (fB (T 58)),fS (T 58),3,[],.none,.none,.none,(.str z52 746),none,(.ref 450),.none,0⟩),⟨[]⟩⟩
noncomputable def tree9 (P : Params) : BT := (.node (PySem.W.boot_o_0 P) (.node (PySem.W.boot_o_1 P) (.node (o3_9 P) (.node (PySem.W.boot_o_7 P) (.node (o15_1 P) (.node (o31_2 P) (.node (o63_3 P) (.node (o127_4 P) (.node (o255_6 P) .nil .nil) (.node (o383_8 P) .nil .nil)) (.node (o191_5 P) (.node (o319_7 P) .nil .nil) (.node (o447_9 P) .nil .nil))) (.node (o95_4 P) (.node (o159_5 P) (.node (o287_6 P) .nil .nil) (.node (o415_9 P) .nil .nil)) (.node (o223_5 P) (.node (o351_8 P) .nil .nil) .nil))) (.node (o47_2 P) (.node (o79_4 P) (.node (o143_4 P) (.node (o271_6 P) .nil .nil) (.node (o399_8 P) .nil .nil)) (.node (o207_5 P) (.node (o335_7 P) .nil .nil) .nil)) (.node (o111_4 P) (.node (o175_5 P) (.node (o303_7 P) .nil .nil) (.node (o431_9 P) .nil .nil)) (.node (o239_5 P) (.node (o367_8 P) .nil .nil) .nil)))) (.node (o23_1 P) (.node (o39_2 P) (.node (o71_4 P) (.node (o135_4 P) (.node (o263_6 P) .nil .nil) (.node (o391_8 P) .nil .nil)) (.node (o199_5 P) (.node (o327_7 P) .nil .nil) .nil)) (.node (o103_4 P) (.node (o167_5 P) (.node (o295_6 P) .nil .nil) (.node (o423_9 P) .nil .nil)) (.node (o231_5 P) (.node (o359_8 P) .nil .nil) .nil))) (.node (o55_3 P) (.node (o87_4 P) (.node (o151_4 P) (.node (o279_6 P) .nil .nil) (.node (o407_9 P) .nil .nil)) (.node (o215_5 P) (.node (o343_7 P) .nil .nil) .nil)) (.node (o119_4 P) (.node (o183_5 P) (.node (o311_7 P) .nil .nil) (.node (o439_9 P) .nil .nil)) (.node (o247_6 P) (.node (o375_8 P) .nil .nil) .nil))))) (.node (o11a P) (.node (o19_1 P) (.node (o35_2 P) (.node (o67_3 P) (.node (o131_4 P) (.node (o259_6 P) .nil .nil) (.node (o387_8 P) .nil .nil)) (.node (o195_5 P) (.node (o323_7 P) .nil .nil) (.node (o451_9 P) .nil .nil))) (.node (o99_4 P) (.node (o163_5 P) (.node (o291_6 P) .nil .nil) (.node (o419_9 P) .nil .nil)) (.node (o227_5 P) (.node (o355_8 P) .nil .nil) .nil))) (.node (o51_2 P) (.node (o83_4 P) (.node (o147_4 P) (.node (o275_6 P) .nil .nil) (.node (o403_9 P) .nil .nil)) (.node (o211_5 P) (.node (o339_7 P) .nil .nil) .nil)) (.node (o115_4 P) (.node (o179_5 P) (.node (o307_7 P) .nil .nil) (.node (o435_9 P) .nil .nil)) (.node (o243_5 P) (.node (o371_8 P) .nil .nil) .nil)))) (.node (o27_1 P) (.node (o43_2 P) (.node (o75_4 P) (.node (o139_4 P) (.node (o267_6 P) .nil .nil) (.node (o395_8 P) .nil .nil)) (.node (o203_5 P) (.node (o331_7 P) .nil .nil) .nil)) (.node (o107_4 P) (.node (o171_5 P) (.node (o299_6 P) .nil .nil) (.node (o427_9 P) .nil .nil)) (.node (o235_5 P) (.node (o363_8 P) .nil .nil) .nil))) (.node (o59_3 P) (.node (o91_4 P) (.node (o155_4 P) (.node (o283_6 P) .nil .nil) (.node (o411_9 P) .nil .nil)) (.node (o219_5 P) (.node (o347_7 P) .nil .nil) .nil)) (.node (o123_4 P) (.node (o187_5 P) (.node (o315_7 P) .nil .nil) (.node (o443_9 P) .nil .nil)) (.node (o251_6 P) (.node (o379_8 P) .nil .nil) .nil)))))) (.node (PySem.W.boot_o_5 P) (.node (PySem.W.boot_o_9 P) (.node (o17_1 P) (.node (o33_1 P) (.node (o65_3 P) (.node (o129_4 P) (.node (o257_6 P) .nil .nil) (.node (o385_8 P) .nil .nil)) (.node (o193_5 P) (.node (o321_7 P) .nil .nil) (.node (o449_9 P) .nil .nil))) (.node (o97_4 P) (.node (o161_5 P) (.node (o289_6 P) .nil .nil) (.node (o417_9 P) .nil .nil)) (.node (o225_5 P) (.node (o353_8 P) .nil .nil) .nil))) (.node (o49_2 P) (.node (o81_4 P) (.node (o145_4 P) (.node (o273_6 P) .nil .nil) (.node (o401_8 P) .nil .nil)) (.node (o209_5 P) (.node (o337_7 P) .nil .nil) .nil)) (.node (o113_4 P) (.node (o177_5 P) (.node (o305_7 P) .nil .nil) (.node (o433_9 P) .nil .nil)) (.node (o241_5 P) (.node (o369_8 P) .nil .nil) .nil)))) (.node (o25_1 P) (.node (o41_2 P) (.node (o73_4 P) (.node (o137_4 P) (.node (o265_6 P) .nil .nil) (.node (o393_8 P) .nil .nil)) (.node (o201_5 P) (.node (o329_7 P) .nil .nil) .nil)) (.node (o105_4 P) (.node (o169_5 P) (.node (o297_6 P) .nil .nil) (.node (o425_9 P) .nil .nil)) (.node (o233_5 P) (.node (o361_8 P) .nil .nil) .nil))) (.node (o57_3 P) (.node (o89_4 P) (.node (o153_4 P) (.node (o281_6 P) .nil .nil) (.node (o409_9 P) .nil .nil)) (.node (o217_5 P) (.node (o345_7 P) .nil .nil) .nil)) (.node (o121_4 P) (.node (o185_5 P) (.node (o313_7 P) .nil .nil) (.node (o441_9 P) .nil .nil)) (.node (o249_6 P) (.node (o377_8 P) .nil .nil) .nil))))) (.node (o13a P) (.node (o21_1 P) (.node (o37_2 P) (.node (o69_4 P) (.node (o133_4 P) (.node (o261_6 P) .nil .nil) (.node (o389_8 P) .nil .nil)) (.node (o197_5 P) (.node (o325_7 P) .nil .nil) .nil)) (.node (o101_4 P) (.node (o165_5 P) (.node (o293_6 P) .nil .nil) (.node (o421_9 P) .nil .nil)) (.node (o229_5 P) (.node (o357_8 P) .nil .nil) .nil))) (.node (o53_2 P) (.node (o85_4 P) (.node (o149_4 P) (.node (o277_6 P) .nil .nil) (.node (o405_9 P) .nil .nil)) (.node (o213_5 P) (.node (o341_7 P) .nil .nil) .nil)) (.node (o117_4 P) (.node (o181_5 P) (.node (o309_7 P) .nil .nil) (.node (o437_9 P) .nil .nil)) (.node (o245_6 P) (.node (o373_8 P) .nil .nil) .nil)))) (.node (o29_1 P) (.node (o45_2 P) (.node (o77_4 P) (.node (o141_4 P) (.node (o269_6 P) .nil .nil) (.node (o397_8 P) .nil .nil)) (.node (o205_5 P) (.node (o333_7 P) .nil .nil) .nil)) (.node (o109_4 P) (.node (o173_5 P) (.node (o301_6 P) .nil .nil) (.node (o429_9 P) .nil .nil)) (.node (o237_5 P) (.node (o365_8 P) .nil .nil) .nil))) (.node (o61_3 P) (.node (o93_4 P) (.node (o157_4 P) (.node (o285_6 P) .nil .nil) (.node (o413_9 P) .nil .nil)) (.node (o221_5 P) (.node (o349_7 P) .nil .nil) .nil)) (.node (o125_4 P) (.node (o189_5 P) (.node (o317_7 P) .nil .nil) (.node (o445_9 P) .nil .nil)) (.node (o253_6 P) (.node (o381_8 P) .nil .nil) .nil))))))) (.node (o2_1 P) (.node (PySem.W.boot_o_4 P) (.node (PySem.W.boot_o_8 P) (.node (o16_1 P) (.node (o32_1 P) (.node (o64_3 P) (.node (o128_4 P) (.node (o256_6 P) .nil .nil) (.node (o384_8 P) .nil .nil)) (.node (o192_5 P) (.node (o320_7 P) .nil .nil) (.node (o448_9 P) .nil .nil))) (.node (o96_4 P) (.node (o160_5 P) (.node (o288_6 P) .nil .nil) (.node (o416_9 P) .nil .nil)) (.node (o224_5 P) (.node (o352_8 P) .nil .nil) .nil))) (.node (o48_2 P) (.node (o80_4 P) (.node (o144_4 P) (.node (o272_6 P) .nil .nil) (.node (o400_8 P) .nil .nil)) (.node (o208_5 P) (.node (o336_7 P) .nil .nil) .nil)) (.node (o112_4 P) (.node (o176_5 P) (.node (o304_7 P) .nil .nil) (.node (o432_9 P) .nil .nil)) (.node (o240_5 P) (.node (o368_8 P) .nil .nil) .nil)))) (.node (o24_1 P) (.node (o40_2 P) (.node (o72_4 P) (.node (o136_4 P) (.node (o264_6 P) .nil .nil) (.node (o392_8 P) .nil .nil)) (.node (o200_5 P) (.node (o328_7 P) .nil .nil) .nil)) (.node (o104_4 P) (.node (o168_5 P) (.node (o296_6 P) .nil .nil) (.node (o424_9 P) .nil .nil)) (.node (o232_5 P) (.node (o360_8 P) .nil .nil) .nil))) (.node (o56_3 P) (.node (o88_4 P) (.node (o152_4 P) (.node (o280_6 P) .nil .nil) (.node (o408_9 P) .nil .nil)) (.node (o216_5 P) (.node (o344_7 P) .nil .nil) .nil)) (.node (o120_4 P) (.node (o184_5 P) (.node (o312_7 P) .nil .nil) (.node (o440_9 P) .nil .nil)) (.node (o248_6 P) (.node (o376_8 P) .nil .nil) .nil))))) (.node (o12_9 P) (.node (o20_1 P) (.node (o36_2 P) (.node (o68_4 P) (.node (o132_4 P) (.node (o260_6 P) .nil .nil) (.node (o388_8 P) .nil .nil)) (.node (o196_5 P) (.node (o324_7 P) .nil .nil) .nil)) (.node (o100_4 P) (.node (o164_5 P) (.node (o292_6 P) .nil .nil) (.node (o420_9 P) .nil .nil)) (.node (o228_5 P) (.node (o356_8 P) .nil .nil) .nil))) (.node (o52_2 P) (.node (o84_4 P) (.node (o148_4 P) (.node (o276_6 P) .nil .nil) (.node (o404_9 P) .nil .nil)) (.node (o212_5 P) (.node (o340_7 P) .nil .nil) .nil)) (.node (o116_4 P) (.node (o180_5 P) (.node (o308_7 P) .nil .nil) (.node (o436_9 P) .nil .nil)) (.node (o244_5 P) (.node (o372_8 P) .nil .nil) .nil)))) (.node (o28_1 P) (.node (o44_2 P) (.node (o76_4 P) (.node (o140_4 P) (.node (o268_6 P) .nil .nil) (.node (o396_8 P) .nil .nil)) (.node (o204_5 P) (.node (o332_7 P) .nil .nil) .nil)) (.node (o108_4 P) (.node (o172_5 P) (.node (o300_6 P) .nil .nil) (.node (o428_9 P) .nil .nil)) (.node (o236_5 P) (.node (o364_8 P) .nil .nil) .nil))) (.node (o60_3 P) (.node (o92_4 P) (.node (o156_4 P) (.node (o284_6 P) .nil .nil) (.node (o412_9 P) .nil .nil)) (.node (o220_5 P) (.node (o348_7 P) .nil .nil) .nil)) (.node (o124_4 P) (.node (o188_5 P) (.node (o316_7 P) .nil .nil) (.node (o444_9 P) .nil .nil)) (.node (o252_6 P) (.node (o380_8 P) .nil .nil) .nil)))))) (.node (PySem.W.boot_o_6 P) (.node (PySem.W.boot_o_10 P) (.node (o18_1 P) (.node (o34_1 P) (.node (o66_3 P) (.node (o130_4 P) (.node (o258_6 P) .nil .nil) (.node (o386_8 P) .nil .nil)) (.node (o194_5 P) (.node (o322_7 P) .nil .nil) (.node (o450_9 P) .nil .nil))) (.node (o98_4 P) (.node (o162_5 P) (.node (o290_6 P) .nil .nil) (.node (o418_9 P) .nil .nil)) (.node (o226_5 P) (.node (o354_8 P) .nil .nil) .nil))) (.node (o50_2 P) (.node (o82_4 P) (.node (o146_4 P) (.node (o274_6 P) .nil .nil) (.node (o402_8 P) .nil .nil)) (.node (o210_5 P) (.node (o338_7 P) .nil .nil) .nil)) (.node (o114_4 P) (.node (o178_5 P) (.node (o306_7 P) .nil .nil) (.node (o434_9 P) .nil .nil)) (.node (o242_5 P) (.node (o370_8 P) .nil .nil) .nil)))) (.node (o26_1 P) (.node (o42_2 P) (.node (o74_4 P) (.node (o138_4 P) (.node (o266_6 P) .nil .nil) (.node (o394_8 P) .nil .nil)) (.node (o202_5 P) (.node (o330_7 P) .nil .nil) .nil)) (.node (o106_4 P) (.node (o170_5 P) (.node (o298_6 P) .nil .nil) (.node (o426_9 P) .nil .nil)) (.node (o234_5 P) (.node (o362_8 P) .nil .nil) .nil))) (.node (o58_3 P) (.node (o90_4 P) (.node (o154_4 P) (.node (o282_6 P) .nil .nil) (.node (o410_9 P) .nil .nil)) (.node (o218_5 P) (.node (o346_7 P) .nil .nil) .nil)) (.node (o122_4 P) (.node (o186_5 P) (.node (o314_7 P) .nil .nil) (.node (o442_9 P) .nil .nil)) (.node (o250_6 P) (.node (o378_8 P) .nil .nil) .nil))))) (.node (o14a P) (.node (o22_1 P) (.node (o38_2 P) (.node (o70_4 P) (.node (o134_4 P) (.node (o262_6 P) .nil .nil) (.node (o390_8 P) .nil .nil)) (.node (o198_5 P) (.node (o326_7 P) .nil .nil) .nil)) (.node (o102_4 P) (.node (o166_5 P) (.node (o294_6 P) .nil .nil) (.node (o422_9 P) .nil .nil)) (.node (o230_5 P) (.node (o358_8 P) .nil .nil) .nil))) (.node (o54_3 P) (.node (o86_4 P) (.node (o150_4 P) (.node (o278_6 P) .nil .nil) (.node (o406_9 P) .nil .nil)) (.node (o214_5 P) (.node (o342_7 P) .nil .nil) .nil)) (.node (o118_4 P) (.node (o182_5 P) (.node (o310_7 P) .nil .nil) (.node (o438_9 P) .nil .nil)) (.node (o246_6 P) (.node (o374_8 P) .nil .nil) .nil)))) (.node (o30_1 P) (.node (o46_2 P) (.node (o78_4 P) (.node (o142_4 P) (.node (o270_6 P) .nil .nil) (.node (o398_8 P) .nil .nil)) (.node (o206_5 P) (.node (o334_7 P) .nil .nil) .nil)) (.node (o110_4 P) (.node (o174_5 P) (.node (o302_7 P) .nil .nil) (.node (o430_9 P) .nil .nil)) (.node (o238_5 P) (.node (o366_8 P) .nil .nil) .nil))) (.node (o62_3 P) (.node (o94_4 P) (.node (o158_4 P) (.node (o286_6 P) .nil .nil) (.node (o414_9 P) .nil .nil)) (.node (o222_5 P) (.node (o350_7 P) .nil .nil) .nil)) (.node (o126_4 P) (.node (o190_5 P) (.node (o318_7 P) .nil .nil) (.node (o446_9 P) .nil .nil)) (.node (o254_6 P) (.node (o382_8 P) .nil .nil) .nil))))))))
noncomputable abbrev S9 (w : World) (os : OsState) : SharedT := ⟨tree9 w.params,452,life0,⟨[]⟩,PySem.W.boot_drawn,828,os⟩
noncomputable def sts9 : List Stmt := [T 52,T 53,T 54,T 55,T 56,T 57,T 58]
theorem pc9 (w : World) (os : OsState) : segRunT treeTable PT w 11 ann0 1 235 (S8 w os) (piecesOf sts9 env0 cE ⟨294, 0, 294, 8⟩ [topFrame q0]) = some (.next, S9 w os, cE, ⟨353, 0, 379, 65⟩) := by
  rw [show @segRunT = _ from PySem.W.Fast.te10110043849684766642, show @treeTable = _ from PySem.W.Fast.te14364793385576792824]
  delta piecesOf
  rw [show @execs = _ from PySem.W.Fast.te12563942051412417395]
  kernel_rfl
noncomputable def heapF (P : Params) : Heap := ⟨⟨[PySem.W.boot_o_0 P,PySem.W.boot_o_1 P,o2_1 P,o3_9 P,PySem.W.boot_o_4 P,PySem.W.boot_o_5 P,PySem.W.boot_o_6 P,PySem.W.boot_o_7 P,PySem.W.boot_o_8 P,PySem.W.boot_o_9 P,PySem.W.boot_o_10 P,o11a P,o12_9 P,o13a P,o14a P,o15_1 P,o16_1 P,o17_1 P,o18_1 P,o19_1 P,o20_1 P,o21_1 P,o22_1 P,o23_1 P,o24_1 P,o25_1 P,o26_1 P,o27_1 P,o28_1 P,o29_1 P,o30_1 P,o31_2 P,o32_1 P,o33_1 P,o34_1 P,o35_2 P,o36_2 P,o37_2 P,o38_2 P,o39_2 P,o40_2 P,o41_2 P,o42_2 P,o43_2 P,o44_2 P,o45_2 P,o46_2 P,o47_2 P,o48_2 P,o49_2 P,o50_2 P,o51_2 P,o52_2 P,o53_2 P,o54_3 P,o55_3 P,o56_3 P,o57_3 P,o58_3 P,o59_3 P,o60_3 P,o61_3 P,o62_3 P,o63_3 P,o64_3 P,o65_3 P,o66_3 P,o67_3 P,o68_4 P,o69_4 P,o70_4 P,o71_4 P,o72_4 P,o73_4 P,o74_4 P,o75_4 P,o76_4 P,o77_4 P,o78_4 P,o79_4 P,o80_4 P,o81_4 P,o82_4 P,o83_4 P,o84_4 P,o85_4 P,o86_4 P,o87_4 P,o88_4 P,o89_4 P,o90_4 P,o91_4 P,o92_4 P,o93_4 P,o94_4 P,o95_4 P,o96_4 P,o97_4 P,o98_4 P,o99_4 P,o100_4 P,o101_4 P,o102_4 P,o103_4 P,o104_4 P,o105_4 P,o106_4 P,o107_4 P,o108_4 P,o109_4 P,o110_4 P,o111_4 P,o112_4 P,o113_4 P,o114_4 P,o115_4 P,o116_4 P,o117_4 P,o118_4 P,o119_4 P,o120_4 P,o121_4 P,o122_4 P,o123_4 P,o124_4 P,o125_4 P,o126_4 P,o127_4 P,o128_4 P,o129_4 P,o130_4 P,o131_4 P,o132_4 P,o133_4 P,o134_4 P,o135_4 P,o136_4 P,o137_4 P,o138_4 P,o139_4 P,o140_4 P,o141_4 P,o142_4 P,o143_4 P,o144_4 P,o145_4 P,o146_4 P,o147_4 P,o148_4 P,o149_4 P,o150_4 P,o151_4 P,o152_4 P,o153_4 P,o154_4 P,o155_4 P,o156_4 P,o157_4 P,o158_4 P,o159_5 P,o160_5 P,o161_5 P,o162_5 P,o163_5 P,o164_5 P,o165_5 P,o166_5 P,o167_5 P,o168_5 P,o169_5 P,o170_5 P,o171_5 P,o172_5 P,o173_5 P,o174_5 P,o175_5 P,o176_5 P,o177_5 P,o178_5 P,o179_5 P,o180_5 P,o181_5 P,o182_5 P,o183_5 P,o184_5 P,o185_5 P,o186_5 P,o187_5 P,o188_5 P,o189_5 P,o190_5 P,o191_5 P,o192_5 P,o193_5 P,o194_5 P,o195_5 P,o196_5 P,o197_5 P,o198_5 P,o199_5 P,o200_5 P,o201_5 P,o202_5 P,o203_5 P,o204_5 P,o205_5 P,o206_5 P,o207_5 P,o208_5 P,o209_5 P,o210_5 P,o211_5 P,o212_5 P,o213_5 P,o214_5 P,o215_5 P,o216_5 P,o217_5 P,o218_5 P,o219_5 P,o220_5 P,o221_5 P,o222_5 P,o223_5 P,o224_5 P,o225_5 P,o226_5 P,o227_5 P,o228_5 P,o229_5 P,o230_5 P,o231_5 P,o232_5 P,o233_5 P,o234_5 P,o235_5 P,o236_5 P,o237_5 P,o238_5 P,o239_5 P,o240_5 P,o241_5 P,o242_5 P,o243_5 P,o244_5 P,o245_6 P,o246_6 P,o247_6 P,o248_6 P,o249_6 P,o250_6 P,o251_6 P,o252_6 P,o253_6 P,o254_6 P,o255_6 P,o256_6 P,o257_6 P,o258_6 P,o259_6 P,o260_6 P,o261_6 P,o262_6 P,o263_6 P,o264_6 P,o265_6 P,o266_6 P,o267_6 P,o268_6 P,o269_6 P,o270_6 P,o271_6 P,o272_6 P,o273_6 P,o274_6 P,o275_6 P,o276_6 P,o277_6 P,o278_6 P,o279_6 P,o280_6 P,o281_6 P,o282_6 P,o283_6 P,o284_6 P,o285_6 P,o286_6 P,o287_6 P,o288_6 P,o289_6 P,o290_6 P,o291_6 P,o292_6 P,o293_6 P,o294_6 P,o295_6 P,o296_6 P,o297_6 P,o298_6 P,o299_6 P,o300_6 P,o301_6 P,o302_7 P,o303_7 P,o304_7 P,o305_7 P,o306_7 P,o307_7 P,o308_7 P,o309_7 P,o310_7 P,o311_7 P,o312_7 P,o313_7 P,o314_7 P,o315_7 P,o316_7 P,o317_7 P,o318_7 P,o319_7 P,o320_7 P,o321_7 P,o322_7 P,o323_7 P,o324_7 P,o325_7 P,o326_7 P,o327_7 P,o328_7 P,o329_7 P,o330_7 P,o331_7 P,o332_7 P,o333_7 P,o334_7 P,o335_7 P,o336_7 P,o337_7 P,o338_7 P,o339_7 P,o340_7 P,o341_7 P,o342_7 P,o343_7 P,o344_7 P,o345_7 P,o346_7 P,o347_7 P,o348_7 P,o349_7 P,o350_7 P,o351_8 P,o352_8 P,o353_8 P,o354_8 P,o355_8 P,o356_8 P,o357_8 P,o358_8 P,o359_8 P,o360_8 P,o361_8 P,o362_8 P,o363_8 P,o364_8 P,o365_8 P,o366_8 P,o367_8 P,o368_8 P,o369_8 P,o370_8 P,o371_8 P,o372_8 P,o373_8 P,o374_8 P,o375_8 P,o376_8 P,o377_8 P,o378_8 P,o379_8 P,o380_8 P,o381_8 P,o382_8 P,o383_8 P,o384_8 P,o385_8 P,o386_8 P,o387_8 P,o388_8 P,o389_8 P,o390_8 P,o391_8 P,o392_8 P,o393_8 P,o394_8 P,o395_8 P,o396_8 P,o397_8 P,o398_8 P,o399_8 P,o400_8 P,o401_8 P,o402_8 P,o403_9 P,o404_9 P,o405_9 P,o406_9 P,o407_9 P,o408_9 P,o409_9 P,o410_9 P,o411_9 P,o412_9 P,o413_9 P,o414_9 P,o415_9 P,o416_9 P,o417_9 P,o418_9 P,o419_9 P,o420_9 P,o421_9 P,o422_9 P,o423_9 P,o424_9 P,o425_9 P,o426_9 P,o427_9 P,o428_9 P,o429_9 P,o430_9 P,o431_9 P,o432_9 P,o433_9 P,o434_9 P,o435_9 P,o436_9 P,o437_9 P,o438_9 P,o439_9 P,o440_9 P,o441_9 P,o442_9 P,o443_9 P,o444_9 P,o445_9 P,o446_9 P,o447_9 P,o448_9 P,o449_9 P,o450_9 P,o451_9 P]⟩,life0⟩
noncomputable abbrev SF (w : World) (os : OsState) : Shared := ⟨heapF w.params,⟨[]⟩,PySem.W.boot_drawn,828,os⟩
noncomputable abbrev kAs : List Addr := [0,1,2,3,4,5,6,7,9,10,11,13,14,15,17,18,20,21,22,23,24,25,27,28,29,30,31,32,33,34,35,36,37,38,40,41,42,44,45,47,48,49,50,51,52,53,54,56,57,59,60,61,63,64,66,67,68,69,70,71,73,74,75,77,78,80,81,82,84,85,87,88,89,91,92,94,95,96,98,99,101,102,103,105,106,108,109,110,112,113,115,116,117,119,120,122,123,124,126,127,129,130,131,133,134,136,137,138,140,141,143,144,145,147,148,150,151,152,153,154,155,156,157,158,159,160,162,163,165,166,167,169,170,172,173,174,176,177,179,180,181,182,184,185,187,188,189,191,192,194,195,196,198,199,201,202,203,205,206,208,209,210,212,213,215,216,217,219,220,222,223,224,226,227,229,230,231,233,234,236,237,238,240,241,243,244,245,247,248,250,251,252,254,255,257,258,259,261,262,264,265,266,267,268,269,271,272,273,274,276,277,279,280,281,283,284,286,287,288,289,290,291,292,293,294,295,297,298,300,301,302,303,304,305,307,308,309,311,312,314,315,316,318,319,321,322,323,324,325,326,327,328,329,330,332,333,335,336,337,339,340,342,343,344,346,347,349,350,351,352,353,354,356,357,358,360,361,363,364,365,367,368,370,371,372,375,376,377,378,379,380,381,382,383,384,386,387,389,390,391,394,395,396,398,399,401,402,403,405,406,408,409,410,412,413,415,416,417,419,420,422,423,424,426,427,429,430,431,433,434,436,437,438,440,441,443,444,445,447,448,450,451]
noncomputable def KF (P : Params) : Frag := [(0,PySem.W.boot_o_0 P),(1,PySem.W.boot_o_1 P),(2,o2_1 P),(3,o3_9 P),(4,PySem.W.boot_o_4 P),(5,PySem.W.boot_o_5 P),(6,PySem.W.boot_o_6 P),(7,PySem.W.boot_o_7 P),(9,PySem.W.boot_o_9 P),(10,PySem.W.boot_o_10 P),(11,o11a P),(13,o13a P),(14,o14a P),(15,o15_1 P),(17,o17_1 P),(18,o18_1 P),(20,o20_1 P),(21,o21_1 P),(22,o22_1 P),(23,o23_1 P),(24,o24_1 P),(25,o25_1 P),(27,o27_1 P),(28,o28_1 P),(29,o29_1 P),(30,o30_1 P),(31,o31_2 P),(32,o32_1 P),(33,o33_1 P),(34,o34_1 P),(35,o35_2 P),(36,o36_2 P),(37,o37_2 P),(38,o38_2 P),(40,o40_2 P),(41,o41_2 P),(42,o42_2 P),(44,o44_2 P),(45,o45_2 P),(47,o47_2 P),(48,o48_2 P),(49,o49_2 P),(50,o50_2 P),(51,o51_2 P),(52,o52_2 P),(53,o53_2 P),(54,o54_3 P),(56,o56_3 P),(57,o57_3 P),(59,o59_3 P),(60,o60_3 P),(61,o61_3 P),(63,o63_3 P),(64,o64_3 P),(66,o66_3 P),(67,o67_3 P),(68,o68_4 P),(69,o69_4 P),(70,o70_4 P),(71,o71_4 P),(73,o73_4 P),(74,o74_4 P),(75,o75_4 P),(77,o77_4 P),(78,o78_4 P),(80,o80_4 P),(81,o81_4 P),(82,o82_4 P),(84,o84_4 P),(85,o85_4 P),(87,o87_4 P),(88,o88_4 P),(89,o89_4 P),(91,o91_4 P),(92,o92_4 P),(94,o94_4 P),(95,o95_4 P),(96,o96_4 P),(98,o98_4 P),(99,o99_4 P),(101,o101_4 P),(102,o102_4 P),(103,o103_4 P),(105,o105_4 P),(106,o106_4 P),(108,o108_4 P),(109,o109_4 P),(110,o110_4 P),(112,o112_4 P),(113,o113_4 P),(115,o115_4 P),(116,o116_4 P),(117,o117_4 P),(119,o119_4 P),(120,o120_4 P),(122,o122_4 P),(123,o123_4 P),(124,o124_4 P),(126,o126_4 P),(127,o127_4 P),(129,o129_4 P),(130,o130_4 P),(131,o131_4 P),(133,o133_4 P),(134,o134_4 P),(136,o136_4 P),(137,o137_4 P),(138,o138_4 P),(140,o140_4 P),(141,o141_4 P),(143,o143_4 P),(144,o144_4 P),(145,o145_4 P),(147,o147_4 P),(148,o148_4 P),(150,o150_4 P),(151,o151_4 P),(152,o152_4 P),(153,o153_4 P),(154,o154_4 P),(155,o155_4 P),(156,o156_4 P),(157,o157_4 P),(158,o158_4 P),(159,o159_5 P),(160,o160_5 P),(162,o162_5 P),(163,o163_5 P),(165,o165_5 P),(166,o166_5 P),(167,o167_5 P),(169,o169_5 P),(170,o170_5 P),(172,o172_5 P),(173,o173_5 P),(174,o174_5 P),(176,o176_5 P),(177,o177_5 P),(179,o179_5 P),(180,o180_5 P),(181,o181_5 P),(182,o182_5 P),(184,o184_5 P),(185,o185_5 P),(187,o187_5 P),(188,o188_5 P),(189,o189_5 P),(191,o191_5 P),(192,o192_5 P),(194,o194_5 P),(195,o195_5 P),(196,o196_5 P),(198,o198_5 P),(199,o199_5 P),(201,o201_5 P),(202,o202_5 P),(203,o203_5 P),(205,o205_5 P),(206,o206_5 P),(208,o208_5 P),(209,o209_5 P),(210,o210_5 P),(212,o212_5 P),(213,o213_5 P),(215,o215_5 P),(216,o216_5 P),(217,o217_5 P),(219,o219_5 P),(220,o220_5 P),(222,o222_5 P),(223,o223_5 P),(224,o224_5 P),(226,o226_5 P),(227,o227_5 P),(229,o229_5 P),(230,o230_5 P),(231,o231_5 P),(233,o233_5 P),(234,o234_5 P),(236,o236_5 P),(237,o237_5 P),(238,o238_5 P),(240,o240_5 P),(241,o241_5 P),(243,o243_5 P),(244,o244_5 P),(245,o245_6 P),(247,o247_6 P),(248,o248_6 P),(250,o250_6 P),(251,o251_6 P),(252,o252_6 P),(254,o254_6 P),(255,o255_6 P),(257,o257_6 P),(258,o258_6 P),(259,o259_6 P),(261,o261_6 P),(262,o262_6 P),(264,o264_6 P),(265,o265_6 P),(266,o266_6 P),(267,o267_6 P),(268,o268_6 P),(269,o269_6 P),(271,o271_6 P),(272,o272_6 P),(273,o273_6 P),(274,o274_6 P),(276,o276_6 P),(277,o277_6 P),(279,o279_6 P),(280,o280_6 P),(281,o281_6 P),(283,o283_6 P),(284,o284_6 P),(286,o286_6 P),(287,o287_6 P),(288,o288_6 P),(289,o289_6 P),(290,o290_6 P),(291,o291_6 P),(292,o292_6 P),(293,o293_6 P),(294,o294_6 P),(295,o295_6 P),(297,o297_6 P),(298,o298_6 P),(300,o300_6 P),(301,o301_6 P),(302,o302_7 P),(303,o303_7 P),(304,o304_7 P),(305,o305_7 P),(307,o307_7 P),(308,o308_7 P),(309,o309_7 P),(311,o311_7 P),(312,o312_7 P),(314,o314_7 P),(315,o315_7 P),(316,o316_7 P),(318,o318_7 P),(319,o319_7 P),(321,o321_7 P),(322,o322_7 P),(323,o323_7 P),(324,o324_7 P),(325,o325_7 P),(326,o326_7 P),(327,o327_7 P),(328,o328_7 P),(329,o329_7 P),(330,o330_7 P),(332,o332_7 P),(333,o333_7 P),(335,o335_7 P),(336,o336_7 P),(337,o337_7 P),(339,o339_7 P),(340,o340_7 P),(342,o342_7 P),(343,o343_7 P),(344,o344_7 P),(346,o346_7 P),(347,o347_7 P),(349,o349_7 P),(350,o350_7 P),(351,o351_8 P),(352,o352_8 P),(353,o353_8 P),(354,o354_8 P),(356,o356_8 P),(357,o357_8 P),(358,o358_8 P),(360,o360_8 P),(361,o361_8 P),(363,o363_8 P),(364,o364_8 P),(365,o365_8 P),(367,o367_8 P),(368,o368_8 P),(370,o370_8 P),(371,o371_8 P),(372,o372_8 P),(375,o375_8 P),(376,o376_8 P),(377,o377_8 P),(378,o378_8 P),(379,o379_8 P),(380,o380_8 P),(381,o381_8 P),(382,o382_8 P),(383,o383_8 P),(384,o384_8 P),(386,o386_8 P),(387,o387_8 P),(389,o389_8 P),(390,o390_8 P),(391,o391_8 P),(394,o394_8 P),(395,o395_8 P),(396,o396_8 P),(398,o398_8 P),(399,o399_8 P),(401,o401_8 P),(402,o402_8 P),(403,o403_9 P),(405,o405_9 P),(406,o406_9 P),(408,o408_9 P),(409,o409_9 P),(410,o410_9 P),(412,o412_9 P),(413,o413_9 P),(415,o415_9 P),(416,o416_9 P),(417,o417_9 P),(419,o419_9 P),(420,o420_9 P),(422,o422_9 P),(423,o423_9 P),(424,o424_9 P),(426,o426_9 P),(427,o427_9 P),(429,o429_9 P),(430,o430_9 P),(431,o431_9 P),(433,o433_9 P),(434,o434_9 P),(436,o436_9 P),(437,o437_9 P),(438,o438_9 P),(440,o440_9 P),(441,o441_9 P),(443,o443_9 P),(444,o444_9 P),(445,o445_9 P),(447,o447_9 P),(448,o448_9 P),(450,o450_9 P),(451,o451_9 P)]
noncomputable abbrev looseF : List Str := [Str.ofString "_wall",Str.ofString "ClausemillError",Str.ofString "PrologError",Str.ofString "A_NIL",Str.ofString "A_BAR",Str.ofString "A_CUT",Str.ofString "A_TRUE",Str.ofString "A_SYSTEM",Str.ofString "F_DOT",Str.ofString "F_COMMA",Str.ofString "F_SEMI",Str.ofString "F_ARROW",Str.ofString "F_NOT",Str.ofString "F_NECK",Str.ofString "F_GRAMMAR",Str.ofString "F_CURLY",Str.ofString "F_EQUAL",Str.ofString "F_ERROR",Str.ofString "fixed_atoms",Str.ofString "fixed_functors",Str.ofString "Symbols",Str.ofString "NIL",Str.ofString "var",Str.ofString "atom",Str.ofString "struct",Str.ofString "list_term",Str.ofString "list_items",Str.ofString "is_callable",Str.ofString "functor_in",Str.ofString "arguments",Str.ofString "variables",Str.ofString "variables_of",Str.ofString "conjunction",Str.ofString "system_error",Str.ofString "formal_of",Str.ofString "instantiation_error",Str.ofString "type_error",Str.ofString "Fresh",Str.ofString "right_spine",Str.ofString "GrammarVariables",Str.ofString "translate_grammar",Str.ofString "nonterminal",Str.ofString "terminals",Str.ofString "GrammarTree",Str.ofString "grammar_body",Str.ofString "grammar_part",Str.ofString "plain_goal",Str.ofString "_law_coins",Str.ofString "_law_coin",Str.ofString "_law_row",Str.ofString "_law_part",Str.ofString "_law_list_fault",Str.ofString "_law_part_fault"]
theorem pre0 (w : World) (os : OsState) : topGo treeTable PT w 11 ann0 12 (S0 w os) (topStub PT) = some (SA w os, ⟨denote treeTable cE, cE, ⟨0, 0, 0, 0⟩, [topFrame q0]⟩) := by
  rw [show @topGo = _ from PySem.W.Fast.te15667345088766844465, show @treeTable = _ from PySem.W.Fast.te14364793385576792824, show @denote = _ from PySem.W.Fast.te11892475500146522536]
  kernel_rfl
theorem blk0 (w : World) (os : OsState) : segRun treeTable PT w 11 ann0 1 1 (SA w os) (blockOf bE env0 cE ⟨0, 0, 0, 0⟩ [topFrame q0]) = some (.next, (SB w os).abs, cE, ⟨0, 0, 0, 0⟩) := by
  rw [show @segRun = _ from PySem.W.Fast.te14374325043358763698, show @treeTable = _ from PySem.W.Fast.te14364793385576792824]
  kernel_rfl
theorem fin0 (w : World) (os : OsState) : topRun treeTable PT w 11 ann0 2 ((S9 w os).abs) (restOf [] env0 cE ⟨353, 0, 379, 65⟩ [topFrame q0]) = some (SF w os) := by
  rw [show @topRun = _ from PySem.W.Fast.te14082659384304107361, show @treeTable = _ from PySem.W.Fast.te14364793385576792824]
  kernel_rfl
theorem rr9 (w : World) (os : OsState) : topRun treeTable PT w 11 ann0 (235 + 2) ((S8 w os).abs) (restOf (sts9 ++ []) env0 cE ⟨294, 0, 294, 8⟩ [topFrame q0]) = some (SF w os) := piece_app (segRun_of (pc9 w os)) (fin0 w os)
theorem rr8 (w : World) (os : OsState) : topRun treeTable PT w 11 ann0 (397 + (235 + 2)) ((S7 w os).abs) (restOf (sts8 ++ (sts9 ++ [])) env0 cE ⟨200, 0, 206, 59⟩ [topFrame q0]) = some (SF w os) := piece_app (segRun_of (pc8 w os)) (rr9 w os)
theorem rr7 (w : World) (os : OsState) : topRun treeTable PT w 11 ann0 (366 + (397 + (235 + 2))) ((S6 w os).abs) (restOf (sts7 ++ (sts8 ++ (sts9 ++ []))) env0 cE ⟨163, 0, 163, 8⟩ [topFrame q0]) = some (SF w os) := piece_app (segRun_of (pc7 w os)) (rr8 w os)
theorem rr6 (w : World) (os : OsState) : topRun treeTable PT w 11 ann0 (399 + (366 + (397 + (235 + 2)))) ((S5 w os).abs) (restOf (sts6 ++ (sts7 ++ (sts8 ++ (sts9 ++ [])))) env0 cE ⟨135, 0, 136, 65⟩ [topFrame q0]) = some (SF w os) := piece_app (segRun_of (pc6 w os)) (rr7 w os)
theorem rr5 (w : World) (os : OsState) : topRun treeTable PT w 11 ann0 (384 + (399 + (366 + (397 + (235 + 2))))) ((S4 w os).abs) (restOf (sts5 ++ (sts6 ++ (sts7 ++ (sts8 ++ (sts9 ++ []))))) env0 cE ⟨30, 0, 83, 16⟩ [topFrame q0]) = some (SF w os) := piece_app (segRun_of (pc5 w os)) (rr6 w os)
theorem rr4 (w : World) (os : OsState) : topRun treeTable PT w 11 ann0 (553 + (384 + (399 + (366 + (397 + (235 + 2)))))) ((S3 w os).abs) (restOf (sts4 ++ (sts5 ++ (sts6 ++ (sts7 ++ (sts8 ++ (sts9 ++ [])))))) env0 cE ⟨28, 0, 29, 389⟩ [topFrame q0]) = some (SF w os) := piece_app (segRun_of (pc4 w os)) (rr5 w os)
theorem rr3 (w : World) (os : OsState) : topRun treeTable PT w 11 ann0 (57 + (553 + (384 + (399 + (366 + (397 + (235 + 2))))))) ((S2 w os).abs) (restOf (sts3 ++ (sts4 ++ (sts5 ++ (sts6 ++ (sts7 ++ (sts8 ++ (sts9 ++ []))))))) env0 cE ⟨25, 0, 25, 7⟩ [topFrame q0]) = some (SF w os) := piece_app (segRun_of (pc3 w os)) (rr4 w os)
theorem rr2 (w : World) (os : OsState) : topRun treeTable PT w 11 ann0 (381 + (57 + (553 + (384 + (399 + (366 + (397 + (235 + 2)))))))) ((S1 w os).abs) (restOf (sts2 ++ (sts3 ++ (sts4 ++ (sts5 ++ (sts6 ++ (sts7 ++ (sts8 ++ (sts9 ++ [])))))))) env0 cE ⟨5, 0, 6, 8⟩ [topFrame q0]) = some (SF w os) := piece_app (segRun_of (pc2 w os)) (rr3 w os)
theorem rr1 (w : World) (os : OsState) : topRun treeTable PT w 11 ann0 (235 + (381 + (57 + (553 + (384 + (399 + (366 + (397 + (235 + 2))))))))) ((SB w os).abs) (restOf (sts1 ++ (sts2 ++ (sts3 ++ (sts4 ++ (sts5 ++ (sts6 ++ (sts7 ++ (sts8 ++ (sts9 ++ []))))))))) env0 cE ⟨0, 0, 0, 0⟩ [topFrame q0]) = some (SF w os) := piece_app (segRun_of (pc1 w os)) (rr2 w os)
theorem bE_eq : bE = (sts1 ++ (sts2 ++ (sts3 ++ (sts4 ++ (sts5 ++ (sts6 ++ (sts7 ++ (sts8 ++ (sts9 ++ []))))))))) := by kernel_rfl
theorem rb (w : World) (os : OsState) : topRun treeTable PT w 11 ann0 (1 + (235 + (381 + (57 + (553 + (384 + (399 + (366 + (397 + (235 + 2)))))))))) (SA w os) ⟨denote treeTable cE, cE, ⟨0, 0, 0, 0⟩, [topFrame q0]⟩ = some (SF w os) :=
  piece_block (blk0 w os) (by rw [bE_eq]; exact rr1 w os)
theorem rTop (w : World) (os : OsState) : topRun treeTable PT w 11 ann0 (12 + (1 + (235 + (381 + (57 + (553 + (384 + (399 + (366 + (397 + (235 + 2))))))))))) (S0 w os) (topStub PT) = some (SF w os) := go_top (pre0 w os) (rb w os)
noncomputable abbrev PW : Program := PT
noncomputable def rwT : OpenLaw := { prog := PT, name := sk [108, 97, 119], about := [sk [116, 114, 97, 110, 115, 108, 97, 116, 101, 95, 103, 114, 97, 109, 109, 97, 114]], foot := 7, most := some 63, bound := none, writes := false }
theorem rw_eq : PySem.Challenge.rw_rh0082_01 = rwT := by
  unfold PySem.Challenge.rw_rh0082_01 rwT
  rw [PT_eq]
  rfl
noncomputable abbrev RW0 : RowW := rwT.row.toRowW
theorem promT : RW0.promised := ⟨[.list []], by decide +kernel, by decide +kernel⟩
noncomputable def qOf (p : Program) : Program := { p with main := { p.main with body := [stAt p.main.body 58] } }
noncomputable abbrev qF : Program := qOf PW
noncomputable abbrev qT : Program := qOf PT
theorem qF_eq : qF = qT := rfl
noncomputable abbrev XtF : Shared → Bool := fun s => recOk (RowW.records RW0) s
noncomputable abbrev YfF : Shared → List (Option Obj) := fun s => kAs.map s.heap.get?
noncomputable abbrev YaF : World → List (Option Obj) := fun w => (KF w.params).map fun p => some p.2
theorem kAs_eq (P : Params) : kAs = (KF P).map (·.1) := by kernel_rfl
theorem openF : ∀ w : World, (fencedOpening treeTable PW w 7000).map (fun s => (s.heap, s.gens, s.drawn, s.toks)) = some (PySem.W.boot_heap w.params, Array.mk [], PySem.W.boot_drawn, PySem.W.boot_toks) :=
  boot_open (by kernel_rfl) (by kernel_rfl) (by intro s; kernel_rfl)
theorem sizeF (w : World) : ((PySem.W.boot_heap w.params).isNs mainGlobals && (Array.mk [] : Array GenState).size == 0, (PySem.W.boot_heap w.params).objs.size, (PySem.W.boot_heap w.params).nsMap mainGlobals "__annotations__") = (true, 11, ann0) := by
  rw [show @Heap.nsMap = _ from PySem.W.Fast.te8920871248978507458]
  kernel_rfl
theorem lookA (w : World) (os : OsState) : (staticsOk (importedModules PT.main.body) (PySem.W.boot_heap w.params) (heapF w.params) && namesBound PT (heapF w.params) && gensDone (SF w os) && laidKept (PySem.W.boot_heap w.params) (heapF w.params)) = true := by
  rw [show @importedModules = _ from PySem.W.Fast.te5923862056798008813]
  delta staticsOk laidKept namesBound
  rw [show @Heap.nsMap = _ from PySem.W.Fast.te8920871248978507458]
  kernel_rfl
theorem lookB (w : World) (os : OsState) : openSeen qT looseF (importedModules PT.main.body) XtF true (SF w os) = openGood qT looseF := by
  rw [show @openSeen = _ from PySem.W.Fast.te4187177175401517315, show @importedModules = _ from PySem.W.Fast.te5923862056798008813]
  kernel_rfl
theorem lookC (w : World) (os : OsState) : YfF (SF w os) = YaF w := by kernel_rfl
theorem rTopW (w : World) (os : OsState) : topRun treeTable PW w 11 ann0 (12 + (1 + (235 + (381 + (57 + (553 + (384 + (399 + (366 + (397 + (235 + 2))))))))))) (S0 w os) (topStub PW) = some (SF w os) := rTop w os
theorem looksF (w : World) : (fun os => ((staticsOk (importedModules PW.main.body) (PySem.W.boot_heap w.params) (heapF w.params) && namesBound PW (heapF w.params) && gensDone (SF w os) && laidKept (PySem.W.boot_heap w.params) (heapF w.params)),
    openSeen qF looseF (importedModules PW.main.body) XtF true (SF w os), YfF (SF w os))) = fun _ => (true, openGood qF looseF, YaF w) := by
  funext os
  exact Prod.ext (lookA w os) (Prod.ext (lookB w os) (lookC w os))
theorem leftF : LeftO PW qF looseF XtF YfF YaF 7000 :=
  LeftO.of_pieces (H₀ := PySem.W.boot_heap) (H₁ := heapF) (gs₀ := ⟨[]⟩) (gs₁ := ⟨[]⟩) (d₀ := PySem.W.boot_drawn) (d₁ := PySem.W.boot_drawn) (m₀ := 11) (ann := ann0) openF sizeF rTopW (by decide) looksF
noncomputable def fPos : Stmt → Pos
  | .FunctionDef _ _ _ _ _ _ _ _ _ p => p
  | _ => ⟨0, 0, 0, 0⟩
noncomputable abbrev lawSt : Stmt := stAt PW.main.body 58
noncomputable def lawRec : DefRec := ⟨Str.ofString "law", fP lawSt, fB lawSt, fS lawSt, fPos lawSt⟩
theorem hdF (hc : WalkO qF looseF (fun _ _ => True) (fun w h => InK KF w h) RW0 lawRec [] (fun f vs => PySem.call f vs)) : PySem.Challenge.rw_rh0082_01.Holds := by
  rw [rw_eq]
  w_on
  o_law
  have hw : RW0.promised := promT
  exact holds_open (r := rwT.row) (q := qF) (loose := looseF) (Xt := XtF) (XP := fun _ _ => True) (YP := fun w h => InK KF w h) leftF (fun w s y => InK.of kAs_eq w s y) (fun w h h' x k => InK.keeps w h h' x k) (fun _ _ => trivial) (fun _ _ _ _ _ => trivial)
    (by rfl) (by rfl) (by rfl) (fun s e => recFacts_of e) (by rfl) (by assumption) (by decide +kernel) ⟨rfl, rfl, rfl, rfl, rfl, by decide +kernel⟩ hw hc
end
end Mine
open PySem PySem.W PySem.Spec PySem.Calls PyProof.Rows
namespace Mine
theorem tT : true = true := rfl
/-! long conjunctions, taken apart at once -/
theorem and2 {p0 p1 C : Prop} (h : p0 ∧ p1) (f : p0 → p1 → C) : C := f h.1 h.2
theorem and3 {p0 p1 p2 C : Prop} (h : p0 ∧ p1 ∧ p2) (f : p0 → p1 → p2 → C) : C := f h.1 h.2.1 h.2.2
theorem and4 {p0 p1 p2 p3 C : Prop} (h : p0 ∧ p1 ∧ p2 ∧ p3) (f : p0 → p1 → p2 → p3 → C) : C := f h.1 h.2.1 h.2.2.1 h.2.2.2
theorem and5 {p0 p1 p2 p3 p4 C : Prop} (h : p0 ∧ p1 ∧ p2 ∧ p3 ∧ p4) (f : p0 → p1 → p2 → p3 → p4 → C) : C := f h.1 h.2.1 h.2.2.1 h.2.2.2.1 h.2.2.2.2
theorem and6 {p0 p1 p2 p3 p4 p5 C : Prop} (h : p0 ∧ p1 ∧ p2 ∧ p3 ∧ p4 ∧ p5) (f : p0 → p1 → p2 → p3 → p4 → p5 → C) : C := f h.1 h.2.1 h.2.2.1 h.2.2.2.1 h.2.2.2.2.1 h.2.2.2.2.2
theorem and7 {p0 p1 p2 p3 p4 p5 p6 C : Prop} (h : p0 ∧ p1 ∧ p2 ∧ p3 ∧ p4 ∧ p5 ∧ p6) (f : p0 → p1 → p2 → p3 → p4 → p5 → p6 → C) : C := f h.1 h.2.1 h.2.2.1 h.2.2.2.1 h.2.2.2.2.1 h.2.2.2.2.2.1 h.2.2.2.2.2.2
theorem and8 {p0 p1 p2 p3 p4 p5 p6 p7 C : Prop} (h : p0 ∧ p1 ∧ p2 ∧ p3 ∧ p4 ∧ p5 ∧ p6 ∧ p7) (f : p0 → p1 → p2 → p3 → p4 → p5 → p6 → p7 → C) : C := f h.1 h.2.1 h.2.2.1 h.2.2.2.1 h.2.2.2.2.1 h.2.2.2.2.2.1 h.2.2.2.2.2.2.1 h.2.2.2.2.2.2.2
theorem and9 {p0 p1 p2 p3 p4 p5 p6 p7 p8 C : Prop} (h : p0 ∧ p1 ∧ p2 ∧ p3 ∧ p4 ∧ p5 ∧ p6 ∧ p7 ∧ p8) (f : p0 → p1 → p2 → p3 → p4 → p5 → p6 → p7 → p8 → C) : C := f h.1 h.2.1 h.2.2.1 h.2.2.2.1 h.2.2.2.2.1 h.2.2.2.2.2.1 h.2.2.2.2.2.2.1 h.2.2.2.2.2.2.2.1 h.2.2.2.2.2.2.2.2
theorem and10 {p0 p1 p2 p3 p4 p5 p6 p7 p8 p9 C : Prop} (h : p0 ∧ p1 ∧ p2 ∧ p3 ∧ p4 ∧ p5 ∧ p6 ∧ p7 ∧ p8 ∧ p9) (f : p0 → p1 → p2 → p3 → p4 → p5 → p6 → p7 → p8 → p9 → C) : C := f h.1 h.2.1 h.2.2.1 h.2.2.2.1 h.2.2.2.2.1 h.2.2.2.2.2.1 h.2.2.2.2.2.2.1 h.2.2.2.2.2.2.2.1 h.2.2.2.2.2.2.2.2.1 h.2.2.2.2.2.2.2.2.2
theorem and11 {p0 p1 p2 p3 p4 p5 p6 p7 p8 p9 p10 C : Prop} (h : p0 ∧ p1 ∧ p2 ∧ p3 ∧ p4 ∧ p5 ∧ p6 ∧ p7 ∧ p8 ∧ p9 ∧ p10) (f : p0 → p1 → p2 → p3 → p4 → p5 → p6 → p7 → p8 → p9 → p10 → C) : C := f h.1 h.2.1 h.2.2.1 h.2.2.2.1 h.2.2.2.2.1 h.2.2.2.2.2.1 h.2.2.2.2.2.2.1 h.2.2.2.2.2.2.2.1 h.2.2.2.2.2.2.2.2.1 h.2.2.2.2.2.2.2.2.2.1 h.2.2.2.2.2.2.2.2.2.2
theorem and12 {p0 p1 p2 p3 p4 p5 p6 p7 p8 p9 p10 p11 C : Prop} (h : p0 ∧ p1 ∧ p2 ∧ p3 ∧ p4 ∧ p5 ∧ p6 ∧ p7 ∧ p8 ∧ p9 ∧ p10 ∧ p11) (f : p0 → p1 → p2 → p3 → p4 → p5 → p6 → p7 → p8 → p9 → p10 → p11 → C) : C := f h.1 h.2.1 h.2.2.1 h.2.2.2.1 h.2.2.2.2.1 h.2.2.2.2.2.1 h.2.2.2.2.2.2.1 h.2.2.2.2.2.2.2.1 h.2.2.2.2.2.2.2.2.1 h.2.2.2.2.2.2.2.2.2.1 h.2.2.2.2.2.2.2.2.2.2.1 h.2.2.2.2.2.2.2.2.2.2.2
theorem and13 {p0 p1 p2 p3 p4 p5 p6 p7 p8 p9 p10 p11 p12 C : Prop} (h : p0 ∧ p1 ∧ p2 ∧ p3 ∧ p4 ∧ p5 ∧ p6 ∧ p7 ∧ p8 ∧ p9 ∧ p10 ∧ p11 ∧ p12) (f : p0 → p1 → p2 → p3 → p4 → p5 → p6 → p7 → p8 → p9 → p10 → p11 → p12 → C) : C := f h.1 h.2.1 h.2.2.1 h.2.2.2.1 h.2.2.2.2.1 h.2.2.2.2.2.1 h.2.2.2.2.2.2.1 h.2.2.2.2.2.2.2.1 h.2.2.2.2.2.2.2.2.1 h.2.2.2.2.2.2.2.2.2.1 h.2.2.2.2.2.2.2.2.2.2.1 h.2.2.2.2.2.2.2.2.2.2.2.1 h.2.2.2.2.2.2.2.2.2.2.2.2
/-! abstract values, store, locals -/
inductive LV where
  | dat (d : PyData)
  | loc (n : Nat)
  | con (v : Value)
inductive AO where
  | free
  | list (xs : List PyData)
  | sdict (D : List (Str × Int))
  | tdict (D : List (List Int × Int))
  | idict (D : List (Int × Bool))
  | inst (C : Addr) (k : Nat)
  | ns (fs : List (Str × LV))
  | exc0
  | exc (k : Nat) (t : Bool)
noncomputable abbrev Store := Nat → AO
noncomputable abbrev Locals := List (Str × LV)
noncomputable abbrev RM := Nat → Option Addr
noncomputable def upd (σ : Store) (n : Nat) (o : AO) : Store := fun k => bif Nat.beq k n then o else σ k
theorem upd_self (σ : Store) (n : Nat) (o : AO) : upd σ n o n = o := by simp [upd]
theorem upd_ne {σ : Store} {n k : Nat} {o : AO} (h : k ≠ n) : upd σ n o k = σ k := by
  have : Nat.beq k n = false := by
    cases q : Nat.beq k n with
    | false => rfl
    | true => exact absurd (Nat.eq_of_beq_eq_true q) h
  simp [upd, this]
noncomputable def lb : List Nat → List Nat → Bool
  | [], [] => true
  | a :: x, b :: y => bif Nat.beq a b then lb x y else false
  | _, _ => false
theorem lb_eq : ∀ {x y : List Nat}, lb x y = true → x = y
  | [], [], _ => rfl
  | a :: x, b :: y, h => by
    unfold lb at h
    cases q : Nat.beq a b with
    | false => rw [q] at h; cases h
    | true => rw [q] at h; rw [Nat.eq_of_beq_eq_true q, lb_eq h]
  | [], _ :: _, h => by cases h
  | _ :: _, [], h => by cases h
theorem lb_refl : ∀ x : List Nat, lb x x = true
  | [] => rfl
  | a :: x => by unfold lb; rw [Nat.beq_refl]; exact lb_refl x
noncomputable def sb (x y : Str) : Bool := lb x.cps.toList y.cps.toList
theorem sb_eq {x y : Str} (h : sb x y = true) : x = y := by
  have := lb_eq h
  cases x; cases y
  simp only [Str.mk.injEq]
  exact Array.toList_inj.mp this
theorem sb_refl (x : Str) : sb x x = true := lb_refl _
theorem sb_iff {x y : Str} : sb x y = true ↔ x = y := ⟨sb_eq, fun e => e ▸ sb_refl x⟩
noncomputable def lk {α : Type} : List (Str × α) → Str → Option α
  | [], _ => none
  | p :: r, x => bif sb p.1 x then some p.2 else lk r x
theorem lk_cons {α : Type} (p : Str × α) (r : List (Str × α)) (x : Str) : lk (p :: r) x = if p.1 = x then some p.2 else lk r x := by
  show (bif sb p.1 x then some p.2 else lk r x) = _
  by_cases h : p.1 = x
  · rw [if_pos h, sb_iff.mpr h]; rfl
  · rw [if_neg h]
    cases q : sb p.1 x with
    | false => rfl
    | true => exact absurd (sb_eq q) h
noncomputable def putl {α : Type} : List (Str × α) → Str → α → List (Str × α)
  | [], x, v => [(x, v)]
  | p :: r, x, v => bif sb p.1 x then (x, v) :: r else p :: putl r x v
theorem lk_putl {α : Type} (m : List (Str × α)) (x : Str) (v : α) (y : Str) : lk (putl m x v) y = if x = y then some v else lk m y := by
  induction m with
  | nil => rw [putl, lk_cons]
  | cons p r ih =>
    unfold putl
    cases q : sb p.1 x with
    | true =>
      have e := sb_eq q
      show lk ((x, v) :: r) y = _
      rw [lk_cons, lk_cons]
      by_cases h : x = y
      · simp [h]
      · simp only [if_neg h]
        rw [if_neg (e ▸ h)]
    | false =>
      have e : p.1 ≠ x := fun e => by rw [sb_iff.mpr e] at q; cases q
      show lk (p :: putl r x v) y = _
      rw [lk_cons, lk_cons, ih]
      by_cases h : p.1 = y
      · have : x ≠ y := fun z => e (h.trans z.symm)
        simp [h, this]
      · simp [h]
/-! how values lie -/
noncomputable def Frozen (ρ : RM) (h : Heap) (b : Addr) : Prop := (∃ o vs k, h.get? b = some o ∧ o.data = .seq vs k) ∧ ∀ n, ρ n ≠ some b
noncomputable def DRep (ρ : RM) (h : Heap) (d : PyData) (v : Value) : Prop := ∃ as, Reads h v d as ∧ ∀ b ∈ as, Frozen ρ h b
noncomputable def DReps (ρ : RM) (h : Heap) (ds : List PyData) (vs : List Value) : Prop := ∃ as, ReadsAll h vs ds as ∧ ∀ b ∈ as, Frozen ρ h b
noncomputable def LRep (ρ : RM) (h : Heap) : LV → Value → Prop
  | .dat d, v => DRep ρ h d v
  | .loc n, v => ∃ a, ρ n = some a ∧ v = .ref a
  | .con c, v => v = c
noncomputable def FRep (ρ : RM) (h : Heap) : List (Str × LV) → List DictEntry → Prop
  | [], [] => True
  | f :: fs, e :: es => (∃ t, e.key = .str f.1 t) ∧ LRep ρ h f.2 e.val ∧ (∀ k, f.2 = .loc k → k < 32) ∧ FRep ρ h fs es
  | _, _ => False
noncomputable def SRep : List (Str × Int) → List (Str × Value) → Prop
  | [], [] => True
  | d :: D, p :: ps => p.1 = d.1 ∧ (∃ t, p.2 = .int d.2 t) ∧ SRep D ps
  | _, _ => False
noncomputable def IRep : List (Int × Bool) → List (Int × Value) → Prop
  | [], [] => True
  | d :: D, p :: ps => p.1 = d.1 ∧ p.2 = .bool d.2 ∧ IRep D ps
  | _, _ => False
noncomputable def TRep : List (List Int × Int) → List (List Int × Addr × Value) → Prop
  | [], [] => True
  | d :: D, p :: ps => p.1 = d.1 ∧ (∃ t, p.2.2 = .int d.2 t) ∧ TRep D ps
  | _, _ => False
noncomputable abbrev lsObj (vs : List Value) (k : Nat) : Obj := { cls := .type "list", data := .seq vs.toArray k }
structure Cx where
  w : World
  base : Heap
  mg : Str → Option Value
  mb : Str → Option Value
  gens : Array GenState
  os : OsState
noncomputable abbrev kInt (w : World) := intKind PW w
noncomputable abbrev kStr (w : World) := strKind PW w
noncomputable def ORep (w : World) (ρ : RM) (h : Heap) (o : AO) (a : Addr) : Prop := match o with
  | .free => False
  | .list xs => ∃ vs k, h.get? a = some (lsObj vs k) ∧ DReps ρ h xs vs
  | .sdict D => ∃ kvs, h.DictOf (strKind PW w) a kvs ∧ SRep D kvs
  | .tdict D => ∃ kvs, h.DictOfH (tupleKind (intKind PW w)) a kvs ∧ TRep D kvs
  | .idict D => ∃ kvs, h.DictOf (intKind PW w) a kvs ∧ IRep D kvs
  | .inst C k => ∃ d, ρ k = some d ∧ k < 32 ∧ h.get? a = some ⟨.ref C, some d, .plain, #[]⟩
  | .ns fs => ∃ es n, h.get? a = some (dictOf es n) ∧ FRep ρ h fs es
  | .exc0 => ∃ vs sl, h.get? a = some ⟨.ref 51, none, .fields vs, sl⟩ ∧ vs[1]? = some .none
  | .exc k t => ∃ d vs sl, ρ k = some d ∧ k < 32 ∧ h.get? a = some ⟨.ref 51, some d, .fields vs, sl⟩ ∧ (t = true → vs[1]? = some .none)
/-! how values are carried over -/
noncomputable def Same (o o' : Obj) : Prop := o'.cls = o.cls ∧ o'.data = o.data
mutual
theorem reads_on {h h' : Heap} (ht : ∀ a o vs k, h.get? a = some o → o.cls = .type "tuple" → o.data = .seq vs k → ∃ o', h'.get? a = some o' ∧ Same o o') :
    ∀ {v : Value} {d : PyData} {as : List Addr}, Reads h v d as → (∀ a ∈ as, ∀ o, h.get? a = some o → ∃ o', h'.get? a = some o' ∧ Same o o') → Reads h' v d as
  | _, _, _, .none, _ => .none
  | _, _, _, .bool b, _ => .bool b
  | _, _, _, .int i t, _ => .int i t
  | _, _, _, .str x t, _ => .str x t
  | _, _, _, .list h1 h2 h3 h4, k =>
    let ⟨_, e1, e2, e3⟩ := k _ (.head _) _ h1
    .list e1 (e2.trans h2) (e3.trans h3) (readsAll_on ht h4 fun a ha => k a (.tail _ ha))
  | _, _, _, .tuple h1 h2 h3 h4, k =>
    let ⟨_, e1, e2, e3⟩ := ht _ _ _ _ h1 h2 h3
    .tuple e1 (e2.trans h2) (e3.trans h3) (readsAll_on ht h4 k)
  | _, _, _, .dict h1 h2 h3 h4 h5, k =>
    let ⟨_, e1, e2, e3⟩ := k _ (.head _) _ h1
    .dict e1 (e2.trans h2) (e3.trans h3) (readsAll_on ht h4 fun a ha => k a (.tail _ (List.mem_append_left _ ha))) (readsAll_on ht h5 fun a ha => k a (.tail _ (List.mem_append_right _ ha)))
theorem readsAll_on {h h' : Heap} (ht : ∀ a o vs k, h.get? a = some o → o.cls = .type "tuple" → o.data = .seq vs k → ∃ o', h'.get? a = some o' ∧ Same o o') :
    ∀ {vs : List Value} {ds : List PyData} {as : List Addr}, ReadsAll h vs ds as → (∀ a ∈ as, ∀ o, h.get? a = some o → ∃ o', h'.get? a = some o' ∧ Same o o') → ReadsAll h' vs ds as
  | _, _, _, .nil, _ => .nil
  | _, _, _, .cons h1 h2, k => .cons (reads_on ht h1 fun a ha => k a (List.mem_append_left _ ha)) (readsAll_on ht h2 fun a ha => k a (List.mem_append_right _ ha))
end
structure Ext (N : Nat → Prop) (S : Addr → Prop) (ρ : RM) (h : Heap) (ρ' : RM) (h' : Heap) : Prop where
  le : ∀ n a, N n → ρ n = some a → ρ' n = some a
  from_ : ∀ n a, ρ' n = some a → ρ n = some a ∨ h.get? a = none
  keep : ∀ a o, h.get? a = some o → (∀ n, n < 1000 → ρ n ≠ some a) → ¬ S a → h'.get? a = some o
  there : ∀ a o, h.get? a = some o → ∃ o', h'.get? a = some o'
noncomputable abbrev allN : Nat → Prop := fun _ => True
noncomputable abbrev permN : Nat → Prop := fun n => n < 32
noncomputable abbrev noS : Addr → Prop := fun _ => False
theorem Ext.refl {N S} (ρ : RM) (h : Heap) : Ext N S ρ h ρ h := ⟨fun _ _ _ e => e, fun _ _ e => .inl e, fun _ _ e _ _ => e, fun _ o e => ⟨o, e⟩⟩
theorem Ext.off {N S ρ h ρ' h'} (X : Ext N S ρ h ρ' h') {a : Addr} {o : Obj} (e : h.get? a = some o) (k : ∀ n, ρ n ≠ some a) : ∀ n, ρ' n ≠ some a := fun n q => by
  rcases X.from_ n a q with q | q
  · exact k n q
  · rw [e] at q; cases q
theorem Ext.trans {N S ρ₁ h₁ ρ₂ h₂ ρ₃ h₃} (X : Ext N S ρ₁ h₁ ρ₂ h₂) (Y : Ext N S ρ₂ h₂ ρ₃ h₃) : Ext N S ρ₁ h₁ ρ₃ h₃ where
  le n a hn e := Y.le n a hn (X.le n a hn e)
  from_ n a e := by
    rcases Y.from_ n a e with q | q
    · exact X.from_ n a q
    · refine .inr ?_
      cases z : h₁.get? a with
      | none => rfl
      | some o =>
        obtain ⟨o', e'⟩ := X.there a o z
        rw [q] at e'; cases e'
  keep a o e k hs := Y.keep a o (X.keep a o e k hs) (fun n hn q => (X.from_ n a q).elim (k n hn) fun z => by rw [e] at z; cases z) hs
  there a o e := by
    obtain ⟨o', e'⟩ := X.there a o e
    exact Y.there a o' e'
theorem Ext.weaken {N N' S S' ρ h ρ' h'} (X : Ext N S ρ h ρ' h') (hN : ∀ n, N' n → N n) (hS : ∀ a, S a → S' a) : Ext N' S' ρ h ρ' h' :=
  ⟨fun n a hn e => X.le n a (hN n hn) e, X.from_, fun a o e k hs => X.keep a o e k fun q => hs (hS a q), X.there⟩
theorem ORep.cls {w : World} {ρ : RM} {h : Heap} {o : AO} {a : Addr} (r : ORep w ρ h o a) : ∃ ob, h.get? a = some ob ∧ ob.cls ≠ .type "tuple" := by
  cases o with
  | free => cases r
  | list xs => obtain ⟨vs, k, e, _⟩ := r; exact ⟨_, e, by simp⟩
  | sdict D => obtain ⟨kvs, ⟨o, es, ep, e, x, d, _⟩, _⟩ := r; exact ⟨_, e, by rw [x.1]; simp⟩
  | tdict D => obtain ⟨kvs, ⟨o, es, ep, e, x, d, _⟩, _⟩ := r; exact ⟨_, e, by rw [x.1]; simp⟩
  | idict D => obtain ⟨kvs, ⟨o, es, ep, e, x, d, _⟩, _⟩ := r; exact ⟨_, e, by rw [x.1]; simp⟩
  | inst C k => obtain ⟨d, _, _, e⟩ := r; exact ⟨_, e, by simp⟩
  | ns fs => obtain ⟨es, n, e, _⟩ := r; exact ⟨_, e, by simp⟩
  | exc0 => obtain ⟨vs, sl, e, _⟩ := r; exact ⟨_, e, by simp⟩
  | exc k t => obtain ⟨d, vs, sl, _, _, e, _⟩ := r; exact ⟨_, e, by simp⟩
structure RelC (cx : Cx) (fs : List Env) (ρ : RM) (σ : Store) (s : Shared) : Prop where
  base : ∀ b o, cx.base.get? b = some o → s.heap.get? b = some o
  st : ∀ n a, n < 1000 → ρ n = some a → cx.base.get? a = none ∧ (∀ e ∈ fs, e.frame ≠ some a) ∧ ORep cx.w ρ s.heap (σ n) a
  hi : ∀ n a, 1000 ≤ n → ρ n = some a → ∃ o, s.heap.get? a = some o ∧ o.cls ≠ .type "tuple" ∧ ∀ e ∈ fs, e.frame ≠ some a
  dom : ∀ n, ρ n = none → σ n = .free
  inj : ∀ n k a, ρ n = some a → ρ k = some a → n = k
  ff : s.heap.FunFrames cx.base fs
  gens : s.gens = cx.gens
  os : s.os = cx.os
/-- what a change of the heap must leave for the values of ρ -/
structure Carry (ρ : RM) (h : Heap) (ρ' : RM) (h' : Heap) : Prop where
  tup : ∀ a o vs k, h.get? a = some o → o.cls = .type "tuple" → o.data = .seq vs k → ∃ o', h'.get? a = some o' ∧ Same o o'
  seq : ∀ a o vs k, h.get? a = some o → o.data = .seq vs k → (∀ n, ρ n ≠ some a) → (∀ n, ρ' n ≠ some a) ∧ ∃ o', h'.get? a = some o' ∧ Same o o'
section
variable {ρ ρ' : RM} {h h' : Heap}
theorem Frozen.carry (C : Carry ρ h ρ' h') {b : Addr} (f : Frozen ρ h b) : Frozen ρ' h' b := by
  obtain ⟨⟨o, vs, k, e, d⟩, f⟩ := f
  obtain ⟨q, o', e', _, d'⟩ := C.seq b o vs k e d f
  exact ⟨⟨o', vs, k, e', d'.trans d⟩, q⟩
theorem frozen_same (C : Carry ρ h ρ' h') {as : List Addr} (f : ∀ b ∈ as, Frozen ρ h b) : ∀ a ∈ as, ∀ o, h.get? a = some o → ∃ o', h'.get? a = some o' ∧ Same o o' := fun a ha o e => by
  obtain ⟨⟨o₁, vs, k, e₁, d⟩, g⟩ := f a ha
  obtain rfl : o₁ = o := Option.some.inj (e₁.symm.trans e)
  exact (C.seq a _ vs k e d g).2
theorem DRep.carry (C : Carry ρ h ρ' h') {d : PyData} {v : Value} (r : DRep ρ h d v) : DRep ρ' h' d v := by
  obtain ⟨as, r, f⟩ := r
  exact ⟨as, reads_on C.tup r (frozen_same C f), fun b hb => (f b hb).carry C⟩
theorem DReps.carry (C : Carry ρ h ρ' h') {ds : List PyData} {vs : List Value} (r : DReps ρ h ds vs) : DReps ρ' h' ds vs := by
  obtain ⟨as, r, f⟩ := r
  exact ⟨as, readsAll_on C.tup r (frozen_same C f), fun b hb => (f b hb).carry C⟩
theorem LRep.carry (C : Carry ρ h ρ' h') {l : LV} {v : Value} (hl : ∀ n a, l = .loc n → ρ n = some a → ρ' n = some a) (r : LRep ρ h l v) : LRep ρ' h' l v := by
  cases l with
  | dat d => exact DRep.carry C r
  | loc n => obtain ⟨a, e, q⟩ := r; exact ⟨a, hl n a rfl e, q⟩
  | con c => exact r
theorem FRep.carry (C : Carry ρ h ρ' h') (hl : ∀ n a, n < 32 → ρ n = some a → ρ' n = some a) : ∀ {fs : List (Str × LV)} {es : List DictEntry}, FRep ρ h fs es → FRep ρ' h' fs es
  | [], [], _ => trivial
  | f :: fs, e :: es, r => ⟨r.1, LRep.carry C (fun n a q z => hl n a (r.2.2.1 n q) z) r.2.1, r.2.2.1, FRep.carry C hl r.2.2.2⟩
  | [], _ :: _, r => r.elim
  | _ :: _, [], r => r.elim
theorem tupleKeys_carry (C : Carry ρ h ρ' h') {w : World} {kvs : List (List Int × Addr × Value)} (r : ∀ x ∈ kvs, (tupleKind (intKind PW w)).is h x.1 x.2.1) : ∀ x ∈ kvs, (tupleKind (intKind PW w)).is h' x.1 x.2.1 := fun x hx => by
  obtain ⟨o, items, n, e, c, d, i⟩ := r x hx
  obtain ⟨o', e', c', d'⟩ := C.tup _ _ _ _ e c d
  exact ⟨o', items, n, e', c'.trans c, d'.trans d, i⟩
/-- an object whose cell stays -/
theorem ORep.carry (C : Carry ρ h ρ' h') (hl : ∀ n a, n < 32 → ρ n = some a → ρ' n = some a) {w : World} {o : AO} {a : Addr} (he : h'.get? a = h.get? a) (r : ORep w ρ h o a) : ORep w ρ' h' o a := by
  cases o with
  | free => cases r
  | list xs => obtain ⟨vs, k, e, x⟩ := r; exact ⟨vs, k, he.trans e, x.carry C⟩
  | sdict D => obtain ⟨kvs, ⟨o, es, ep, e, x⟩, y⟩ := r; exact ⟨kvs, ⟨o, es, ep, he.trans e, x⟩, y⟩
  | tdict D => obtain ⟨kvs, ⟨o, es, ep, e, x, d, t, ks, n⟩, y⟩ := r; exact ⟨kvs, ⟨o, es, ep, he.trans e, x, d, t, tupleKeys_carry C ks, n⟩, y⟩
  | idict D => obtain ⟨kvs, ⟨o, es, ep, e, x⟩, y⟩ := r; exact ⟨kvs, ⟨o, es, ep, he.trans e, x⟩, y⟩
  | inst C' k => obtain ⟨d, e1, e2, e3⟩ := r; exact ⟨d, hl k d e2 e1, e2, he.trans e3⟩
  | ns fs => obtain ⟨es, n, e, x⟩ := r; exact ⟨es, n, he.trans e, x.carry C hl⟩
  | exc0 => obtain ⟨vs, sl, e, x⟩ := r; exact ⟨vs, sl, he.trans e, x⟩
  | exc k t => obtain ⟨d, vs, sl, e1, e2, e3, x⟩ := r; exact ⟨d, vs, sl, hl k d e2 e1, e2, he.trans e3, x⟩
end
theorem Ext.carry {N S ρ ρ' h'} {cx : Cx} {fs : List Env} {σ : Store} {s : Shared} (R : RelC cx fs ρ σ s) (X : Ext N S ρ s.heap ρ' h') (hS : ∀ a, S a → ∃ o, s.heap.get? a = some o ∧ ∀ vs k, o.data ≠ .seq vs k) : Carry ρ s.heap ρ' h' := by
  have nS : ∀ a o vs k, s.heap.get? a = some o → o.data = .seq vs k → ¬ S a := fun a o vs k e d q => by
    obtain ⟨o', e', d'⟩ := hS a q
    rw [e] at e'; cases e'; exact d' _ _ d
  refine ⟨fun a o vs k e c d => ?_, fun a o vs k e d q => ⟨X.off e q, o, X.keep a o e (fun n _ => q n) (nS a o vs k e d), rfl, rfl⟩⟩
  refine ⟨o, X.keep a o e (fun n hn q => ?_) (nS a o vs k e d), rfl, rfl⟩
  obtain ⟨ob, e', c'⟩ := (R.st n a hn q).2.2.cls
  rw [e] at e'; cases e'; exact c' c
theorem Ext.carry0 {N ρ ρ' h'} {cx : Cx} {fs : List Env} {σ : Store} {s : Shared} (R : RelC cx fs ρ σ s) (X : Ext N noS ρ s.heap ρ' h') : Carry ρ s.heap ρ' h' := X.carry R fun _ q => q.elim
theorem Carry.refl (ρ : RM) (h : Heap) : Carry ρ h ρ h := ⟨fun _ o _ _ e _ _ => ⟨o, e, rfl, rfl⟩, fun _ o _ _ e _ q => ⟨q, o, e, rfl, rfl⟩⟩
theorem Carry.trans {ρ₁ h₁ ρ₂ h₂ ρ₃ h₃} (X : Carry ρ₁ h₁ ρ₂ h₂) (Y : Carry ρ₂ h₂ ρ₃ h₃) : Carry ρ₁ h₁ ρ₃ h₃ := by
  refine ⟨fun a o vs k e c d => ?_, fun a o vs k e d q => ?_⟩
  · obtain ⟨o', e', c', d'⟩ := X.tup a o vs k e c d
    obtain ⟨o'', e'', c'', d''⟩ := Y.tup a o' vs k e' (c'.trans c) (d'.trans d)
    exact ⟨o'', e'', c''.trans c', d''.trans d'⟩
  · obtain ⟨q', o', e', c', d'⟩ := X.seq a o vs k e d q
    obtain ⟨q'', o'', e'', c'', d''⟩ := Y.seq a o' vs k e' (d'.trans d) q'
    exact ⟨q'', o'', e'', c''.trans c', d''.trans d'⟩
/-! frames -/
structure Fx where
  cn : Str
  cs : Scope
  L : Addr
  a : Addr
  cd : Value
  outer : List Env
  ρ0 : RM
  h0 : Heap
  A : Around
  cells : List (Str × Addr)
  cv : List (Str × Addr × Option LV)
noncomputable abbrev Fx.env (fx : Fx) : Env := envX fx.cn fx.cs fx.L fx.a fx.cd fx.cells
noncomputable abbrev Fx.fs (fx : Fx) : List Env := fx.env :: fx.outer
noncomputable def MRep (ρ : RM) (h : Heap) (m : Locals) (mc : Str → Option Value) : Prop := ∀ x l, lk m x = some l → ∃ v, mc x = some v ∧ LRep ρ h l v
noncomputable def LRepO (ρ : RM) (h : Heap) : Option LV → Option Value → Prop
  | none, none => True
  | some l, some v => LRep ρ h l v
  | _, _ => False
theorem LRepO.carry {ρ ρ' : RM} {h h' : Heap} (C : Carry ρ h ρ' h') {l : Option LV} {v : Option Value} (hl : ∀ n a, l = some (.loc n) → ρ n = some a → ρ' n = some a) (r : LRepO ρ h l v) : LRepO ρ' h' l v := by
  cases l <;> cases v
  · trivial
  · exact r.elim
  · exact r.elim
  · exact LRep.carry C (fun n a q => hl n a (congrArg some q)) r
structure CellRep (fx : Fx) (ρ : RM) (h : Heap) (c : Str × Addr × Option LV) : Prop where
  at_ : fx.cells.lookup c.1 = some c.2.1
  val : ∃ v, h.IsCell c.2.1 v ∧ LRepO ρ h c.2.2 v
  off : ∀ n, ρ n ≠ some c.2.1
structure Hist (fx : Fx) (ρ : RM) (h : Heap) : Prop where
  carry : Carry fx.ρ0 fx.h0 ρ h
  frames : ∀ e ∈ fx.outer, ∀ a o, e.frame = some a → fx.h0.get? a = some o → h.get? a = some o
structure Rel (cx : Cx) (fx : Fx) (ρ : RM) (m : Locals) (σ : Store) (s : Shared) : Prop extends RelC cx fx.fs ρ σ s where
  fr : ∃ mc, s.heap.Ns fx.L mc ∧ MRep ρ s.heap m mc
  hist : Hist fx ρ s.heap
  Lout : ∀ e ∈ fx.outer, e.frame ≠ some fx.L
  cv : ∀ c ∈ fx.cv, CellRep fx ρ s.heap c
structure CxOk (cx : Cx) : Prop where
  K : (KF cx.w.params).In cx.base
  T : TopRead qF (looseW qF looseF) cx.mg cx.mb cx.base
structure AOk (A : Around) (d : Nat) (fx : Fx) : Prop where
  handled : d = 0 ∨ A.handled = none
  frames : A.frames = some fx.fs
  depth : A.depth + d < 990
  units : A.units + 10 * d + 100 < 9900
  same : SameStack A fx.A
  fA : fx.A.frames = some fx.fs
theorem ff_on {h h' base : Heap} : ∀ {fs : List Env}, h.FunFrames base fs → (∀ e ∈ fs, ∀ a o, e.frame = some a → h.get? a = some o → (∀ vs, o.data ≠ .fields vs) → ∃ o', h'.get? a = some o' ∧ ∀ vs, o'.data ≠ .fields vs) → h'.FunFrames base fs
  | [], _, _ => trivial
  | e :: fs, ⟨hk, ⟨L, o, hf, hn, ho, hd⟩, r⟩, k =>
    let ⟨o', e', d'⟩ := k e (.head _) L o hf ho hd
    ⟨hk, ⟨L, o', hf, hn, e', d'⟩, ff_on r fun e he => k e (.tail _ he)⟩
noncomputable def setR (ρ : RM) (n : Nat) (a : Addr) : RM := fun k => if k = n then some a else ρ k
theorem setR_self (ρ : RM) (n : Nat) (a : Addr) : setR ρ n a n = some a := if_pos rfl
theorem setR_ne {ρ : RM} {n k : Nat} {a : Addr} (h : k ≠ n) : setR ρ n a k = ρ k := if_neg h
section
variable {cx : Cx} {fs : List Env} {ρ : RM} {σ : Store} {s : Shared}
theorem RelC.free (R : RelC cx fs ρ σ s) {n : Nat} (h : σ n = .free) (hl : n < 1000) : ρ n = none := by
  cases q : ρ n with
  | none => rfl
  | some a => have := (R.st n a hl q).2.2; rw [h] at this; exact this.elim
theorem RelC.thereT (R : RelC cx fs ρ σ s) {n : Nat} {a : Addr} (e : ρ n = some a) : ∃ o, s.heap.get? a = some o ∧ o.cls ≠ .type "tuple" ∧ ∀ e ∈ fs, e.frame ≠ some a := by
  by_cases h : n < 1000
  · obtain ⟨ob, q, c⟩ := (R.st n a h e).2.2.cls
    exact ⟨ob, q, c, (R.st n a h e).2.1⟩
  · exact R.hi n a (Nat.not_lt.mp h) e
theorem RelC.there (R : RelC cx fs ρ σ s) {n : Nat} {a : Addr} (e : ρ n = some a) : ∃ o, s.heap.get? a = some o := let ⟨o, q, _⟩ := R.thereT e; ⟨o, q⟩
theorem RelC.at_ (R : RelC cx fs ρ σ s) {n : Nat} {o : AO} (h : σ n = o) (hf : o ≠ .free) (hl : n < 1000) : ∃ a, ρ n = some a ∧ ORep cx.w ρ s.heap o a ∧ cx.base.get? a = none := by
  cases q : ρ n with
  | none => exact absurd (R.dom n q ▸ h) (fun z => hf z.symm)
  | some a => exact ⟨a, rfl, h ▸ (R.st n a hl q).2.2, (R.st n a hl q).1⟩
theorem RelC.toks (R : RelC cx fs ρ σ s) (t : Nat) : RelC cx fs ρ σ { s with toks := t } := ⟨R.base, R.st, R.hi, R.dom, R.inj, R.ff, R.gens, R.os⟩
theorem RelC.push (R : RelC cx fs ρ σ s) (o : Obj) : RelC cx fs ρ σ { s with heap := s.heap.push o } ∧ Ext allN noS ρ s.heap ρ (s.heap.push o) := by
  have X : Ext allN noS ρ s.heap ρ (s.heap.push o) := ⟨fun _ _ _ e => e, fun _ _ e => .inl e, fun a o' e _ _ => Heap.get?_push_of_some _ e, fun a o' e => ⟨o', Heap.get?_push_of_some _ e⟩⟩
  have C := X.carry0 R
  refine ⟨⟨fun b o' e => Heap.get?_push_of_some _ (R.base b o' e), fun n a hl e => ?_, fun n a hl e => let ⟨o', q, r⟩ := R.hi n a hl e; ⟨o', Heap.get?_push_of_some _ q, r⟩, R.dom, R.inj, ff_on R.ff fun e _ a o' _ q d => ⟨o', Heap.get?_push_of_some _ q, d⟩, R.gens, R.os⟩, X⟩
  obtain ⟨h1, h2, h3⟩ := R.st n a hl e
  obtain ⟨ob, q, _⟩ := h3.cls
  exact ⟨h1, h2, h3.carry C (fun _ _ _ e => e) ((Heap.get?_push_of_some _ q).trans q.symm)⟩
theorem RelC.new (R : RelC cx fs ρ σ s) (o : Obj) {n : Nat} {ao : AO} (hn : σ n = .free) (hnl : n < 1000) (hf : o.isFreed = false) (r : ORep cx.w (setR ρ n s.heap.objs.size) (s.heap.push o) ao s.heap.objs.size) :
    RelC cx fs (setR ρ n s.heap.objs.size) (upd σ n ao) { s with heap := s.heap.push o } ∧ Ext allN noS ρ s.heap (setR ρ n s.heap.objs.size) (s.heap.push o) := by
  have hr := R.free hn hnl
  have X : Ext allN noS ρ s.heap (setR ρ n s.heap.objs.size) (s.heap.push o) := by
    refine ⟨fun k a _ e => ?_, fun k a e => ?_, fun a o' e _ _ => Heap.get?_push_of_some _ e, fun a o' e => ⟨o', Heap.get?_push_of_some _ e⟩⟩
    · by_cases q : k = n
      · subst q; rw [hr] at e; cases e
      · rw [setR_ne q]; exact e
    · by_cases q : k = n
      · subst q; rw [setR_self] at e; cases e; exact .inr (Heap.get?_none_of_le (Nat.le_refl _))
      · rw [setR_ne q] at e; exact .inl e
  have C := X.carry0 R
  have lt : ∀ k a, ρ k = some a → a < s.heap.objs.size := fun k a e => by
    obtain ⟨ob, q⟩ := R.there e
    exact Heap.lt_size q
  refine ⟨⟨fun b o' e => Heap.get?_push_of_some _ (R.base b o' e), fun k a hkl e => ?_, fun k a hkl e => ?_, fun k e => ?_, fun k j a e1 e2 => ?_, ff_on R.ff fun e _ a o' _ q d => ⟨o', Heap.get?_push_of_some _ q, d⟩, R.gens, R.os⟩, X⟩
  · by_cases q : k = n
    · subst q
      rw [setR_self] at e; cases e
      rw [upd_self]
      refine ⟨?_, fun ev he z => ?_, r⟩
      · cases q : cx.base.get? s.heap.objs.size with
        | none => rfl
        | some o' => exact absurd (Heap.lt_size (R.base _ _ q)) (Nat.lt_irrefl _)
      · obtain ⟨L, ob, e1, e2⟩ := funFrames_in R.ff ev he
        rw [e1] at z; cases z
        exact absurd (Heap.lt_size e2) (Nat.lt_irrefl _)
    · rw [setR_ne q] at e
      obtain ⟨h1, h2, h3⟩ := R.st k a hkl e
      obtain ⟨ob, z, _⟩ := h3.cls
      rw [upd_ne q]
      exact ⟨h1, h2, h3.carry C (fun j b _ e => X.le j b trivial e) ((Heap.get?_push_of_some _ z).trans z.symm)⟩
  · have q : k ≠ n := fun z => absurd hnl (Nat.not_lt.mpr (z ▸ hkl))
    rw [setR_ne q] at e
    obtain ⟨o', z, r⟩ := R.hi k a hkl e
    exact ⟨o', Heap.get?_push_of_some _ z, r⟩
  · by_cases q : k = n
    · subst q; rw [setR_self] at e; cases e
    · rw [setR_ne q] at e; rw [upd_ne q]; exact R.dom k e
  · by_cases q : k = n <;> by_cases q' : j = n
    · rw [q, q']
    · subst q
      rw [setR_self] at e1; cases e1
      rw [setR_ne q'] at e2
      exact absurd (lt j _ e2) (Nat.lt_irrefl _)
    · subst q'
      rw [setR_self] at e2; cases e2
      rw [setR_ne q] at e1
      exact absurd (lt k _ e1) (Nat.lt_irrefl _)
    · rw [setR_ne q] at e1; rw [setR_ne q'] at e2
      exact R.inj k j a e1 e2
theorem RelC.mut (R : RelC cx fs ρ σ s) {n : Nat} {a : Addr} {ao : AO} {h' : Heap} {t : Nat} (hn : ρ n = some a) (hnl : n < 1000) (hs : Heap.SameBut a s.heap h') (r : ORep cx.w ρ h' ao a) :
    RelC cx fs ρ (upd σ n ao) { s with heap := h', toks := t } ∧ Ext allN noS ρ s.heap ρ h' := by
  have X : Ext allN noS ρ s.heap ρ h' := ⟨fun _ _ _ e => e, fun _ _ e => .inl e, fun b o e q _ => (hs.2 b fun z => q n hnl (z ▸ hn)).trans e, fun b o e => by
    by_cases z : b = a
    · obtain ⟨ob, q, _⟩ := r.cls
      exact ⟨ob, z ▸ q⟩
    · exact ⟨o, (hs.2 b z).trans e⟩⟩
  have C := X.carry0 R
  have D := R.st n a hnl hn
  refine ⟨⟨fun b o e => (hs.2 b fun z => ?_).trans (R.base b o e), fun k b hkl e => ?_, fun k b hkl e => ?_, fun k e => ?_, R.inj, ff_on R.ff fun e he b o hb q d => ⟨o, (hs.2 b fun z => D.2.1 e he (z ▸ hb)).trans q, d⟩, R.gens, R.os⟩, X⟩
  · rw [z, D.1] at e; cases e
  · by_cases q : k = n
    · subst q
      rw [hn] at e; cases e
      rw [upd_self]
      exact ⟨D.1, D.2.1, r⟩
    · obtain ⟨h1, h2, h3⟩ := R.st k b hkl e
      rw [upd_ne q]
      exact ⟨h1, h2, h3.carry C (fun _ _ _ e => e) (hs.2 b fun z => q (R.inj k n b e (z ▸ hn)))⟩
  · obtain ⟨o', z, r⟩ := R.hi k b hkl e
    exact ⟨o', (hs.2 b fun w => absurd hnl (Nat.not_lt.mpr (R.inj k n b e (w ▸ hn) ▸ hkl))).trans z, r⟩
  · by_cases q : k = n
    · subst q; rw [hn] at e; cases e
    · rw [upd_ne q]; exact R.dom k e
end
section
variable {cx : Cx} {fx : Fx} {ρ ρ' : RM} {σ σ' : Store} {s s' : Shared} {m : Locals}
theorem MRep.carry {h h' : Heap} (C : Carry ρ h ρ' h') (hl : ∀ n a, ρ n = some a → ρ' n = some a) {mc : Str → Option Value} (r : MRep ρ h m mc) : MRep ρ' h' m mc := fun x l e =>
  let ⟨v, e', r'⟩ := r x l e; ⟨v, e', LRep.carry C (fun n a _ q => hl n a q) r'⟩
theorem Hist.next (R : Rel cx fx ρ m σ s) (X : Ext allN noS ρ s.heap ρ' s'.heap) : Hist fx ρ' s'.heap :=
  ⟨R.hist.carry.trans (X.carry0 R.toRelC), fun e he a o hf h0 => X.keep a o (R.hist.frames e he a o hf h0) (fun n hn q => (R.st n a hn q).2.1 e (.tail _ he) hf) id⟩
theorem CellRep.next {fs : List Env} (R : RelC cx fs ρ σ s) (X : Ext allN noS ρ s.heap ρ' s'.heap) {c : Str × Addr × Option LV} (k : CellRep fx ρ s.heap c) : CellRep fx ρ' s'.heap c := by
  obtain ⟨h1, ⟨v, ⟨o, e, d⟩, r⟩, h2⟩ := k
  exact ⟨h1, ⟨v, ⟨o, X.keep _ _ e (fun n _ => h2 n) id, d⟩, LRepO.carry (X.carry0 R) (fun n a _ q => X.le n a trivial q) r⟩, X.off e h2⟩
theorem Rel.next (R : Rel cx fx ρ m σ s) (R' : RelC cx fx.fs ρ' σ' s') (X : Ext allN noS ρ s.heap ρ' s'.heap) : Rel cx fx ρ' m σ' s' := by
  obtain ⟨mc, ⟨o, es, ep, e, r⟩, M⟩ := R.fr
  exact { R' with
    fr := ⟨mc, ⟨o, es, ep, X.keep _ _ e (fun n hn q => (R.st n _ hn q).2.1 fx.env (.head _) rfl) id, r⟩, M.carry (X.carry0 R.toRelC) fun n a q => X.le n a trivial q⟩
    hist := Hist.next R X
    Lout := R.Lout
    cv := fun c hc => (R.cv c hc).next R.toRelC X }
end
inductive All2 {α β : Type} (P : α → β → Prop) : List α → List β → Prop
  | nil : All2 P [] []
  | cons {a b l k} : P a b → All2 P l k → All2 P (a :: l) (b :: k)
inductive VP (cx : Cx) (fx : Fx) (ρ : RM) (m : Locals) (s : Shared) (Q : LV → Store → Prop) (v : Value) (s' : Shared) : Prop where
  | mk (l : LV) (σ' : Store) (ρ' : RM) (X : Ext allN noS ρ s.heap ρ' s'.heap) (R : Rel cx fx ρ' m σ' s') (r : LRep ρ' s'.heap l v) (q : Q l σ')
/-- an expression -/
noncomputable def TE (cx : Cx) (fx : Fx) (E : Value → Shared → Prop) (d : Nat) (e : Expr) (m : Locals) (σ : Store) (Q : LV → Store → Prop) : Prop :=
  ∀ A ρ s, AOk A d fx → Rel cx fx ρ m σ s → wpAny (model PW cx.w) A (eval e fx.env) (VP cx fx ρ m s Q) E s
/-- a test -/
inductive BP (cx : Cx) (fx : Fx) (ρ : RM) (m : Locals) (s : Shared) (Q : Bool → Store → Prop) (b : Bool) (s' : Shared) : Prop where
  | mk (σ' : Store) (ρ' : RM) (X : Ext allN noS ρ s.heap ρ' s'.heap) (R : Rel cx fx ρ' m σ' s') (q : Q b σ')
noncomputable def TT (cx : Cx) (fx : Fx) (E : Value → Shared → Prop) (d : Nat) (e : Expr) (m : Locals) (σ : Store) (Q : Bool → Store → Prop) : Prop :=
  ∀ A ρ s, AOk A d fx → Rel cx fx ρ m σ s → wpAny (model PW cx.w) A (isTrue e fx.env (eval e fx.env)) (BP cx fx ρ m s Q) E s
/-- several expressions, from the left -/
inductive VPs (cx : Cx) (fx : Fx) (ρ : RM) (m : Locals) (s : Shared) (Q : List LV → Store → Prop) (vs : List Value) (s' : Shared) : Prop where
  | mk (ls : List LV) (σ' : Store) (ρ' : RM) (X : Ext allN noS ρ s.heap ρ' s'.heap) (R : Rel cx fx ρ' m σ' s') (r : All2 (LRep ρ' s'.heap) ls vs) (q : Q ls σ')
noncomputable def TEs (cx : Cx) (fx : Fx) (E : Value → Shared → Prop) (d : Nat) (pos : Pos) (es : List Expr) (m : Locals) (σ : Store) (Q : List LV → Store → Prop) : Prop :=
  ∀ A ρ s, AOk A d fx → Rel cx fx ρ m σ s → wpAny (model PW cx.w) A (spliced (backTo pos (starEach es fx.env))) (VPs cx fx ρ m s Q) E s
/-- an operation on values at hand -/
noncomputable def O1 (cx : Cx) (fx : Fx) (E : Value → Shared → Prop) (d : Nat) (f : Value → Sem Value) (l : LV) (m : Locals) (σ : Store) (Q : LV → Store → Prop) : Prop :=
  ∀ A ρ s a, AOk A d fx → Rel cx fx ρ m σ s → LRep ρ s.heap l a → wpAny (model PW cx.w) A (f a) (VP cx fx ρ m s Q) E s
noncomputable def O2 (cx : Cx) (fx : Fx) (E : Value → Shared → Prop) (d : Nat) (f : Value → Value → Sem Value) (l k : LV) (m : Locals) (σ : Store) (Q : LV → Store → Prop) : Prop :=
  ∀ A ρ s a b, AOk A d fx → Rel cx fx ρ m σ s → LRep ρ s.heap l a → LRep ρ s.heap k b → wpAny (model PW cx.w) A (f a b) (VP cx fx ρ m s Q) E s
noncomputable def OT (cx : Cx) (fx : Fx) (E : Value → Shared → Prop) (d : Nat) (l : LV) (m : Locals) (σ : Store) (Q : Bool → Store → Prop) : Prop :=
  ∀ A ρ s a, AOk A d fx → Rel cx fx ρ m σ s → LRep ρ s.heap l a → wpAny (model PW cx.w) A (truthy a) (BP cx fx ρ m s Q) E s
/-! what is asked of a part: named, so that a proof carries the name alone -/
noncomputable def ConsP (cx : Cx) (fx : Fx) (E : Value → Shared → Prop) (d : Nat) (pos : Pos) (es : List Expr) (m : Locals) (Q : List LV → Store → Prop) : LV → Store → Prop := fun l σ₁ => TEs cx fx E d pos es m σ₁ (fun ls => Q (l :: ls))
noncomputable def BinP (cx : Cx) (fx : Fx) (E : Value → Shared → Prop) (d : Nat) (f : Value → Value → Sem Value) (r : Expr) (m : Locals) (Q : LV → Store → Prop) : LV → Store → Prop := fun x σ₁ => TE cx fx E d r m σ₁ (fun y σ₂ => O2 cx fx E d f x y m σ₂ Q)
noncomputable def dats : List LV → Option (List PyData)
  | [] => some []
  | .dat d :: r => (dats r).map (d :: ·)
  | _ :: _ => none
inductive SeqP (k : List PyData → PyData) (Q : LV → Store → Prop) (ls : List LV) (σ : Store) : Prop where
  | mk (ds : List PyData) (e : dats ls = some ds) (z : ds.length ≤ 1000) (q : Q (.dat (k ds)) σ)
inductive NewP (n : Nat) (Q : LV → Store → Prop) (ls : List LV) (σ : Store) : Prop where
  | mk (ds : List PyData) (e : dats ls = some ds) (z : ds.length ≤ 1000) (hn : σ n = .free) (q : Q (.loc n) (upd σ n (.list ds)))
inductive IsB (Q : Bool → Store → Prop) (z : LV) (σ : Store) : Prop where
  | mk (b : Bool) (e : z = .dat (.bool b)) (q : Q b σ)
inductive Br (b : Bool) (p q : Prop) : Prop where
  | mk (t : b = true → p) (f : b = false → q)
inductive Br2 (b : Bool) (p q : Prop) : Prop where
  | mk (f : b = false → p) (t : b = true → q)
theorem leT {a b : Nat} (h : Nat.ble a b = true) : a ≤ b := Nat.le_of_ble_eq_true h
section
variable {cx : Cx} {fx : Fx} {E : Value → Shared → Prop} {d : Nat} {m : Locals} {σ : Store} {ρ : RM} {s : Shared}
theorem LRep.ext {ρ' h'} (R : Rel cx fx ρ m σ s) (X : Ext allN noS ρ s.heap ρ' h') {l : LV} {v : Value} (r : LRep ρ s.heap l v) : LRep ρ' h' l v :=
  LRep.carry (X.carry0 R.toRelC) (fun n a _ q => X.le n a trivial q) r
theorem LReps.ext {ρ' h'} (R : Rel cx fx ρ m σ s) (X : Ext allN noS ρ s.heap ρ' h') {ls : List LV} {vs : List Value} (r : All2 (LRep ρ s.heap) ls vs) : All2 (LRep ρ' h') ls vs := by
  induction r with
  | nil => exact .nil
  | cons h _ ih => exact .cons (h.ext R X) ih
theorem VP.up {ρ₁ s₁ Q v s₂} (X : Ext allN noS ρ s.heap ρ₁ s₁.heap) (h : VP cx fx ρ₁ m s₁ Q v s₂) : VP cx fx ρ m s Q v s₂ :=
  let ⟨l, σ', ρ', X', R, r, q⟩ := h; ⟨l, σ', ρ', X.trans X', R, r, q⟩
theorem BP.up {ρ₁ s₁ Q v s₂} (X : Ext allN noS ρ s.heap ρ₁ s₁.heap) (h : BP cx fx ρ₁ m s₁ Q v s₂) : BP cx fx ρ m s Q v s₂ :=
  let ⟨σ', ρ', X', R, q⟩ := h; ⟨σ', ρ', X.trans X', R, q⟩
theorem VPs.up {ρ₁ s₁ Q v s₂} (X : Ext allN noS ρ s.heap ρ₁ s₁.heap) (h : VPs cx fx ρ₁ m s₁ Q v s₂) : VPs cx fx ρ m s Q v s₂ :=
  let ⟨l, σ', ρ', X', R, r, q⟩ := h; ⟨l, σ', ρ', X.trans X', R, r, q⟩
/-- nothing but the count of tokens has turned -/
theorem Rel.toks (R : Rel cx fx ρ m σ s) (t : Nat) : Rel cx fx ρ m σ { s with toks := t } := { R.toRelC.toks t with fr := R.fr, hist := R.hist, Lout := R.Lout, cv := R.cv }
theorem VP.here {Q : LV → Store → Prop} {l : LV} {v : Value} (R : Rel cx fx ρ m σ s) (r : LRep ρ s.heap l v) (q : Q l σ) (t : Nat) : VP cx fx ρ m s Q v { s with toks := t } :=
  ⟨l, σ, ρ, .refl _ _, R.toks t, r, q⟩
theorem VP.now {Q : LV → Store → Prop} {l : LV} {v : Value} (R : Rel cx fx ρ m σ s) (r : LRep ρ s.heap l v) (q : Q l σ) : VP cx fx ρ m s Q v s := ⟨l, σ, ρ, .refl _ _, R, r, q⟩
theorem BP.now {Q : Bool → Store → Prop} {b : Bool} (R : Rel cx fx ρ m σ s) (q : Q b σ) : BP cx fx ρ m s Q b s := ⟨σ, ρ, .refl _ _, R, q⟩
theorem dInt (i : Int) (t : Tok) : LRep ρ s.heap (.dat (.int i)) (.int i t) := ⟨[], .int i t, fun _ h => (nomatch h)⟩
theorem dStr (i : Str) (t : Tok) : LRep ρ s.heap (.dat (.str i)) (.str i t) := ⟨[], .str i t, fun _ h => (nomatch h)⟩
theorem dNone : LRep ρ s.heap (.dat .none) .none := ⟨[], .none, fun _ h => (nomatch h)⟩
theorem dBool (b : Bool) : LRep ρ s.heap (.dat (.bool b)) (.bool b) := ⟨[], .bool b, fun _ h => (nomatch h)⟩
theorem of_int {i : Int} {v : Value} (r : LRep ρ s.heap (.dat (.int i)) v) : ∃ t, v = .int i t := by obtain ⟨_, r, _⟩ := r; cases r; exact ⟨_, rfl⟩
theorem of_str {i : Str} {v : Value} (r : LRep ρ s.heap (.dat (.str i)) v) : ∃ t, v = .str i t := by obtain ⟨_, r, _⟩ := r; cases r; exact ⟨_, rfl⟩
theorem of_bool {b : Bool} {v : Value} (r : LRep ρ s.heap (.dat (.bool b)) v) : v = .bool b := by obtain ⟨_, r, _⟩ := r; cases r; rfl
theorem of_none {v : Value} (r : LRep ρ s.heap (.dat .none) v) : v = .none := by obtain ⟨_, r, _⟩ := r; cases r; rfl
theorem of_tup {ds : List PyData} {v : Value} (r : LRep ρ s.heap (.dat (.tuple ds)) v) : ∃ a vs, v = .ref a ∧ IsTup s.heap a vs ∧ DReps ρ s.heap ds vs.toList := by
  obtain ⟨as, r, f⟩ := r
  cases r with
  | tuple h1 h2 h3 h4 => exact ⟨_, _, rfl, ⟨_, h1, h2, _, h3⟩, as, h4, f⟩
theorem of_list {ds : List PyData} {v : Value} (r : LRep ρ s.heap (.dat (.list ds)) v) : ∃ a vs, v = .ref a ∧ s.heap.IsList a vs ∧ DReps ρ s.heap ds vs.toList := by
  obtain ⟨as, r, f⟩ := r
  cases r with
  | list h1 h2 h3 h4 => exact ⟨_, _, rfl, ⟨_, h1, h2, _, h3⟩, _, h4, fun b hb => f b (.tail _ hb)⟩
/-! names, constants -/
noncomputable def locB (fx : Fx) (x : Str) : Bool := (match fx.cs.kind with | .function => true | _ => false) && (match fx.env.kindOf x with | some .local => true | _ => false) && !(x == ("__debug__" : Str))
theorem locB_1 {x : Str} (h : locB fx x = true) : fx.cs.kind = .function := by
  unfold locB at h
  cases q : fx.cs.kind <;> rw [q] at h <;> first | rfl | cases h
theorem locB_2 {x : Str} (h : locB fx x = true) : fx.env.kindOf x = some .local := by
  unfold locB at h
  rw [Bool.and_eq_true, Bool.and_eq_true] at h
  replace h := h.1.2
  split at h
  · assumption
  · cases h
theorem locB_3 {x : Str} (h : locB fx x = true) : (x == ("__debug__" : Str)) = false := by
  unfold locB at h
  rw [Bool.and_eq_true] at h
  simpa using h.2
theorem T_name {x : Str} {p : Pos} {Q : LV → Store → Prop} {l : LV} (hl : lk m x = some l) (q : Q l σ) (hb : locB fx x = true := by exact tT) :
    TE cx fx E d (.Name x p) m σ Q := fun A ρ s _ R => by
  obtain ⟨mc, hn, M⟩ := R.fr
  obtain ⟨v, hv, r⟩ := M x l hl
  exact wpAny_Name (wpAny_loadName_local (locB_1 hb) (locB_2 hb) hn hv (VP.now R r q)) (locB_3 hb)
noncomputable def gloB (fx : Fx) (x : Str) : Bool := (match fx.cs.kind with | .function => true | _ => false) && (match fx.env.kindOf x with | some .globalImplicit => true | _ => false) && !(x == ("__debug__" : Str))
theorem gloB_1 {x : Str} (h : gloB fx x = true) : fx.cs.kind = .function := by
  unfold gloB at h
  cases q : fx.cs.kind <;> rw [q] at h <;> first | rfl | cases h
theorem gloB_2 {x : Str} (h : gloB fx x = true) : fx.env.kindOf x = some .globalImplicit := by
  unfold gloB at h
  rw [Bool.and_eq_true, Bool.and_eq_true] at h
  replace h := h.1.2
  split at h
  · assumption
  · cases h
theorem gloB_3 {x : Str} (h : gloB fx x = true) : (x == ("__debug__" : Str)) = false := by
  unfold gloB at h
  rw [Bool.and_eq_true] at h
  simpa using h.2
theorem T_glob {x : Str} {p : Pos} {Q : LV → Store → Prop} {v : Value} (ok : CxOk cx) (e : nsIn (KF cx.w.params) mainGlobals x = some (some v)) (q : Q (.con v) σ)
    (hb : gloB fx x = true := by exact tT) :
    TE cx fx E d (.Name x p) m σ Q := fun A ρ s _ R =>
  Name_function_global (gloB_1 hb) (gloB_2 hb) (loadGlobal_global (env := fx.env) (ok.T.g.keeps R.base) (mg_of ok.K ok.T.g e) (VP.now R (l := .con v) rfl q)) (gloB_3 hb)
theorem T_globD {x : Str} {p : Pos} {Q : LV → Store → Prop} {i : Int} {t : Tok} (ok : CxOk cx) (e : nsIn (KF cx.w.params) mainGlobals x = some (some (.int i t))) (q : Q (.dat (.int i)) σ)
    (hb : gloB fx x = true := by exact tT) :
    TE cx fx E d (.Name x p) m σ Q := fun A ρ s _ R =>
  Name_function_global (gloB_1 hb) (gloB_2 hb) (loadGlobal_global (env := fx.env) (ok.T.g.keeps R.base) (mg_of ok.K ok.T.g e) (VP.now R (dInt i t) q)) (gloB_3 hb)
theorem T_bltin {x : Str} {p : Pos} {Q : LV → Store → Prop} {v : Value} (ok : CxOk cx) (e : nsIn (KF cx.w.params) mainGlobals x = some none) (hv : bootBuiltins x = some v) (hn : x ≠ "__name__") (q : Q (.con v) σ)
    (hb : gloB fx x = true := by exact tT) :
    TE cx fx E d (.Name x p) m σ Q := fun A ρ s _ R =>
  Name_function_global (gloB_1 hb) (gloB_2 hb) (loadGlobal_builtin (env := fx.env) (ok.T.g.keeps R.base) (mg_none_of ok.K ok.T.g e) (ok.T.b.keeps R.base) ((ok.T.builtins x hn).trans hv) (VP.now R (l := .con v) rfl q)) (gloB_3 hb)
theorem T_cint {i : Int} {k : Nat} {p : Pos} {Q : LV → Store → Prop} (q : Q (.dat (.int i)) σ) : TE cx fx E d (.Constant (.int i) k p) m σ Q := fun A ρ s _ R => wpAny_Constant_int (VP.here R (dInt i _) q _)
theorem T_cstr {i : Str} {k : Nat} {p : Pos} {Q : LV → Store → Prop} (q : Q (.dat (.str i)) σ) : TE cx fx E d (.Constant (.str i) k p) m σ Q := fun A ρ s _ R => Constant_str (VP.here R (dStr i _) q _)
theorem T_cnone {k : Nat} {p : Pos} {Q : LV → Store → Prop} (q : Q (.dat .none) σ) : TE cx fx E d (.Constant .none k p) m σ Q := fun A ρ s _ R => fun _ _ _ => VP.now R dNone q
theorem T_cbool {b : Bool} {k : Nat} {p : Pos} {Q : LV → Store → Prop} (q : Q (.dat (.bool b)) σ) : TE cx fx E d (.Constant (.bool b) k p) m σ Q := fun A ρ s _ R => fun _ _ _ => VP.now R (dBool b) q
/-! composition -/
theorem TE.mono {e : Expr} {Q Q' : LV → Store → Prop} (h : TE cx fx E d e m σ Q) (k : ∀ l σ', Q l σ' → Q' l σ') : TE cx fx E d e m σ Q' := fun A ρ s ok R =>
  wpAny_mono (h A ρ s ok R) (fun _ _ ⟨l, σ', ρ', X, R', r, q⟩ => ⟨l, σ', ρ', X, R', r, k l σ' q⟩) fun _ _ x => x
theorem T_bin {l r : Expr} {op : Operator} {p : Pos} {Q : LV → Store → Prop} (h : TE cx fx E d l m σ (BinP cx fx E d (binaryOp op) r m Q)) : TE cx fx E d (.BinOp l op r p) m σ Q := fun A ρ s ok R =>
  wpAny_BinOp (wpAny_mono (h A ρ s ok R) (fun a s₁ ⟨x, σ₁, ρ₁, X₁, R₁, r₁, h₁⟩ => wpAny_mono (h₁ A ρ₁ s₁ ok R₁) (fun b s₂ ⟨y, σ₂, ρ₂, X₂, R₂, r₂, h₂⟩ =>
    wpAny_mono (h₂ A ρ₂ s₂ a b ok R₂ (r₁.ext R₁ X₂) r₂) (fun _ _ z => VP.up (X₁.trans X₂) z) fun _ _ x => x) fun _ _ x => x) fun _ _ x => x)
theorem T_cmp {l r : Expr} {op : CmpOp} {p : Pos} {Q : LV → Store → Prop} (h : TE cx fx E d l m σ (BinP cx fx E d (compareOp op) r m Q)) (hm : behindInMarks op r = false := by with_unfolding_all rfl) : TE cx fx E d (.Compare l [op] [r] p) m σ Q := fun A ρ s ok R =>
  wpAny_Compare1 (wpAny_mono (h A ρ s ok R) (fun a s₁ ⟨x, σ₁, ρ₁, X₁, R₁, r₁, h₁⟩ => wpAny_mono (h₁ A ρ₁ s₁ ok R₁) (fun b s₂ ⟨y, σ₂, ρ₂, X₂, R₂, r₂, h₂⟩ =>
    wpAny_mono (h₂ A ρ₂ s₂ a b ok R₂ (r₁.ext R₁ X₂) r₂) (fun _ _ z => VP.up (X₁.trans X₂) z) fun _ _ x => x) fun _ _ x => x) fun _ _ x => x) hm
theorem TT_cmp {l r : Expr} {op : CmpOp} {p : Pos} {Q : Bool → Store → Prop} (h : TE cx fx E d l m σ (BinP cx fx E d (compareOp op) r m (IsB Q))) (hm : behindInMarks op r = false := by with_unfolding_all rfl) : TT cx fx E d (.Compare l [op] [r] p) m σ Q := fun A ρ s ok R =>
  wpAny_isTrue_Compare1 (wpAny_mono (h A ρ s ok R) (fun a s₁ ⟨x, σ₁, ρ₁, X₁, R₁, r₁, h₁⟩ => wpAny_mono (h₁ A ρ₁ s₁ ok R₁) (fun b s₂ ⟨y, σ₂, ρ₂, X₂, R₂, r₂, h₂⟩ =>
    wpAny_mono (h₂ A ρ₂ s₂ a b ok R₂ (r₁.ext R₁ X₂) r₂) (fun c s₃ ⟨z, σ₃, ρ₃, X₃, R₃, r₃, b, e, q⟩ => by
      subst e; rw [of_bool r₃]; exact wpAny_truthy_bool ⟨σ₃, ρ₃, X₁.trans (X₂.trans X₃), R₃, q⟩) fun _ _ x => x) fun _ _ x => x) fun _ _ x => x) hm
theorem TT_not {x : Expr} {p : Pos} {Q : Bool → Store → Prop} (h : TT cx fx E d x m σ (fun b => Q (!b))) : TT cx fx E d (.UnaryOp .Not x p) m σ Q := fun A ρ s ok R => isTrue_not (wpAny_mono (h A ρ s ok R) (fun _ _ ⟨σ', ρ', X, R, q⟩ => ⟨σ', ρ', X, R, q⟩) fun _ _ x => x)
theorem TT_and0 {p : Pos} {Q : Bool → Store → Prop} (q : Q true σ) : TT cx fx E d (.BoolOp .And [] p) m σ Q := fun A ρ s ok R => isTrue_and_nil (BP.now R q)
theorem TT_or0 {p : Pos} {Q : Bool → Store → Prop} (q : Q false σ) : TT cx fx E d (.BoolOp .Or [] p) m σ Q := fun A ρ s ok R => isTrue_or_nil (BP.now R q)
theorem TT_and {x : Expr} {xs : List Expr} {p : Pos} {Q : Bool → Store → Prop} (h : TT cx fx E d x m σ (fun b σ₁ => Br b (TT cx fx E d (.BoolOp .And xs p) m σ₁ Q) (Q false σ₁))) : TT cx fx E d (.BoolOp .And (x :: xs) p) m σ Q := fun A ρ s ok R =>
  isTrue_and (wpAny_mono (h A ρ s ok R) (fun b s₁ ⟨σ₁, ρ₁, X₁, R₁, h₁, h₂⟩ => by
    cases b with
    | true => exact wpAny_mono (h₁ rfl A ρ₁ s₁ ok R₁) (fun _ _ z => BP.up X₁ z) fun _ _ x => x
    | false => exact ⟨σ₁, ρ₁, X₁, R₁, h₂ rfl⟩) fun _ _ x => x)
theorem TT_or {x : Expr} {xs : List Expr} {p : Pos} {Q : Bool → Store → Prop} (h : TT cx fx E d x m σ (fun b σ₁ => Br2 b (TT cx fx E d (.BoolOp .Or xs p) m σ₁ Q) (Q true σ₁))) : TT cx fx E d (.BoolOp .Or (x :: xs) p) m σ Q := fun A ρ s ok R =>
  isTrue_or (wpAny_mono (h A ρ s ok R) (fun b s₁ ⟨σ₁, ρ₁, X₁, R₁, h₁, h₂⟩ => by
    cases b with
    | false => exact wpAny_mono (h₁ rfl A ρ₁ s₁ ok R₁) (fun _ _ z => BP.up X₁ z) fun _ _ x => x
    | true => exact ⟨σ₁, ρ₁, X₁, R₁, h₂ rfl⟩) fun _ _ x => x)
theorem TT_plain {e : Expr} {Q : Bool → Store → Prop} (h : TE cx fx E d e m σ (fun l σ₁ => OT cx fx E d l m σ₁ Q))
    (he : ∀ whole, isTrue e fx.env whole = (do let v ← whole; standAt e.pos; holding [v] (truthy v)) := by intro _; rfl) : TT cx fx E d e m σ Q := fun A ρ s ok R =>
  isTrue_plain (wpAny_mono (h A ρ s ok R) (fun v s₁ ⟨l, σ₁, ρ₁, X₁, R₁, r₁, h₁⟩ => wpAny_mono (h₁ A ρ₁ s₁ v ok R₁ r₁) (fun _ _ z => BP.up X₁ z) fun _ _ x => x) fun _ _ x => x) (he _)
theorem OT_bool {b : Bool} {Q : Bool → Store → Prop} (q : Q b σ) : OT cx fx E d (.dat (.bool b)) m σ Q := fun A ρ s a ok R r => by rw [of_bool r]; exact wpAny_truthy_bool (BP.now R q)
theorem T_ifexp {t b o : Expr} {p : Pos} {Q : LV → Store → Prop} (h : TT cx fx E d t m σ (fun c σ₁ => Br c (TE cx fx E d b m σ₁ Q) (TE cx fx E d o m σ₁ Q))) : TE cx fx E d (.IfExp t b o p) m σ Q := fun A ρ s ok R =>
  wpAny_IfExp (wpAny_mono (h A ρ s ok R) (fun c s₁ ⟨σ₁, ρ₁, X₁, R₁, h₁, h₂⟩ => by
    cases c with
    | true => exact wpAny_mono (h₁ rfl A ρ₁ s₁ ok R₁) (fun _ _ z => VP.up X₁ z) fun _ _ x => x
    | false => exact wpAny_mono (h₂ rfl A ρ₁ s₁ ok R₁) (fun _ _ z => VP.up X₁ z) fun _ _ x => x) fun _ _ x => x)
/-! several -/
theorem Ts_nil {pos : Pos} {Q : List LV → Store → Prop} (q : Q [] σ) : TEs cx fx E d pos [] m σ Q := fun A ρ s _ R => spliced_nil ⟨[], σ, ρ, .refl _ _, R, .nil, q⟩
theorem Ts_cons {pos : Pos} {e : Expr} {es : List Expr} {Q : List LV → Store → Prop} (h : TE cx fx E d e m σ (ConsP cx fx E d pos es m Q))
    (he : starEach (e :: es) fx.env = (false, eval e fx.env) :: starEach es fx.env := by rfl) : TEs cx fx E d pos (e :: es) m σ Q := fun A ρ s ok R => by
  rw [he]
  exact spliced_cons (wpAny_mono (h A ρ s ok R) (fun v s₁ ⟨l, σ₁, ρ₁, X₁, R₁, r₁, h₁⟩ => wpAny_mono (h₁ A ρ₁ s₁ ok R₁) (fun vs s₂ ⟨ls, σ₂, ρ₂, X₂, R₂, r₂, q⟩ =>
    ⟨l :: ls, σ₂, ρ₂, X₁.trans X₂, R₂, .cons (r₁.ext R₁ X₂) r₂, q⟩) fun _ _ x => x) fun _ _ x => x)
theorem dats_reps {h : Heap} : ∀ {ls : List LV} {vs : List Value} {ds : List PyData}, All2 (LRep ρ h) ls vs → dats ls = some ds → DReps ρ h ds vs
  | _, _, _, .nil, e => by cases e; exact ⟨[], .nil, fun _ h => (nomatch h)⟩
  | .dat d :: ls, _, ds, .cons h1 h2, e => by
    unfold dats at e
    cases q : dats ls with
    | none => rw [q] at e; cases e
    | some ds' =>
      rw [q] at e; cases e
      obtain ⟨as, r1, f1⟩ := h1
      obtain ⟨bs, r2, f2⟩ := dats_reps h2 q
      exact ⟨as ++ bs, .cons r1 r2, fun b hb => (List.mem_append.mp hb).elim (f1 b) (f2 b)⟩
  | .loc _ :: _, _, _, .cons _ _, e => by cases e
  | .con _ :: _, _, _, .cons _ _, e => by cases e
theorem DReps.length {h : Heap} {ds : List PyData} {vs : List Value} (r : DReps ρ h ds vs) : ds.length = vs.length := by
  obtain ⟨as, r, _⟩ := r
  have : ∀ {vs : List Value} {ds : List PyData} {as : List Addr}, ReadsAll h vs ds as → ds.length = vs.length := by
    intro vs ds as r
    induction vs generalizing ds as with
    | nil => cases r; rfl
    | cons v vs ih => cases r with | cons h1 h2 => rw [List.length_cons, List.length_cons, ih h2]
  exact this r
/-- a new frozen object -/
theorem newSeq {cls : String} {ds : List PyData} {vs : List Value} {Q : LV → Store → Prop} (R : Rel cx fx ρ m σ s) (r : DReps ρ s.heap ds vs) (hc : (cls = "tuple" ∧ Q (.dat (.tuple ds)) σ) ∨ (cls = "list" ∧ Q (.dat (.list ds)) σ)) :
    VP cx fx ρ m s Q (.ref s.heap.objs.size) { s with heap := s.heap.push { cls := .type cls, data := .seq vs.toArray } } := by
  obtain ⟨R', X⟩ := R.toRelC.push { cls := .type cls, data := .seq vs.toArray }
  have R'' := R.next R' X
  have r' := r.carry (X.carry0 R.toRelC)
  have hg : (s.heap.push { cls := .type cls, data := .seq vs.toArray }).get? s.heap.objs.size = some { cls := .type cls, data := .seq vs.toArray } := Heap.get?_push_size _ rfl
  obtain ⟨as, q, f⟩ := r'
  rcases hc with ⟨rfl, q'⟩ | ⟨rfl, q'⟩
  · exact ⟨.dat (.tuple ds), σ, ρ, X, R'', ⟨as, .tuple hg rfl rfl q, f⟩, q'⟩
  · refine ⟨.dat (.list ds), σ, ρ, X, R'', ⟨_, .list hg rfl rfl q, fun b hb => ?_⟩, q'⟩
    rcases List.mem_cons.mp hb with rfl | hb
    · refine ⟨⟨_, _, _, hg, rfl⟩, fun n e => ?_⟩
      obtain ⟨ob, z⟩ := R.toRelC.there e
      exact absurd (Heap.lt_size z) (Nat.lt_irrefl _)
    · exact f b hb
theorem T_tuple {es : List Expr} {k : Nat} {p : Pos} {Q : LV → Store → Prop} (h : TEs cx fx E d p es m σ (SeqP .tuple Q)) : TE cx fx E d (.Tuple es k p) m σ Q := fun A ρ s ok R =>
  Tuple_ (wpAny_mono (h A ρ s ok R) (fun vs s₁ ⟨ls, σ₁, ρ₁, X₁, R₁, r₁, ds, e, z, q⟩ => by
    have D := dats_reps r₁ e
    exact wpAny_newObj_type (VP.up X₁ (newSeq R₁ D (.inl ⟨rfl, q⟩))) (by show vs.toArray.size ≤ sizeLine; rw [List.size_toArray, ← D.length]; exact Nat.le_trans z (by decide))) fun _ _ x => x)
/-- a list display, frozen at once -/
theorem T_list {es : List Expr} {p : Pos} {Q : LV → Store → Prop} (h : TEs cx fx E d p es m σ (SeqP .list Q)) : TE cx fx E d (.List es p) m σ Q := fun A ρ s ok R =>
  List_ (wpAny_mono (h A ρ s ok R) (fun vs s₁ ⟨ls, σ₁, ρ₁, X₁, R₁, r₁, ds, e, z, q⟩ => by
    have D := dats_reps r₁ e
    exact wpAny_newObj_type (VP.up X₁ (newSeq R₁ D (.inr ⟨rfl, q⟩))) (by show vs.toArray.size ≤ sizeLine; rw [List.size_toArray, ← D.length]; exact Nat.le_trans z (by decide))) fun _ _ x => x)
/-- a new named object -/
theorem newNamed {o : Obj} {n : Nat} {ao : AO} {Q : LV → Store → Prop} (R : Rel cx fx ρ m σ s) (hn : σ n = .free) (hnl : n < 1000) (hf : o.isFreed = false)
    (r : ORep cx.w (setR ρ n s.heap.objs.size) (s.heap.push o) ao s.heap.objs.size) (q : Q (.loc n) (upd σ n ao)) : VP cx fx ρ m s Q (.ref s.heap.objs.size) { s with heap := s.heap.push o } := by
  obtain ⟨R', X⟩ := R.toRelC.new o hn hnl hf r
  exact ⟨.loc n, _, _, X, R.next R' X, ⟨_, setR_self .., rfl⟩, q⟩
theorem pushCarry {o : Obj} {n : Nat} (R : Rel cx fx ρ m σ s) (hn : σ n = .free) (hnl : n < 1000) : Carry ρ s.heap (setR ρ n s.heap.objs.size) (s.heap.push o) := by
  have hr := R.toRelC.free hn hnl
  refine ⟨fun a o' _ _ e _ _ => ⟨o', Heap.get?_push_of_some _ e, rfl, rfl⟩, fun a o' _ _ e _ q => ⟨fun k z => ?_, o', Heap.get?_push_of_some _ e, rfl, rfl⟩⟩
  by_cases w : k = n
  · subst w; rw [setR_self] at z; cases z; exact absurd (Heap.lt_size e) (Nat.lt_irrefl _)
  · rw [setR_ne w] at z; exact q k z
/-- a list display that will be turned: it gets the name n -/
theorem T_listN (n : Nat) {es : List Expr} {p : Pos} {Q : LV → Store → Prop} (h : TEs cx fx E d p es m σ (NewP n Q)) (hnl : n < 1000 := by decide) : TE cx fx E d (.List es p) m σ Q := fun A ρ s ok R =>
  List_ (wpAny_mono (h A ρ s ok R) (fun vs s₁ ⟨ls, σ₁, ρ₁, X₁, R₁, r₁, ds, e, z, hn, q⟩ => by
    have D := dats_reps r₁ e
    exact wpAny_newObj_type (VP.up X₁ (newNamed (ao := .list ds) R₁ hn hnl rfl ⟨vs, 0, Heap.get?_push_size _ rfl, D.carry (pushCarry R₁ hn hnl)⟩ q)) (by show vs.toArray.size ≤ sizeLine; rw [List.size_toArray, ← D.length]; exact Nat.le_trans z (by decide))) fun _ _ x => x)
/-! ints -/
theorem O_add {i j : Int} {Q : LV → Store → Prop} (q : Q (.dat (.int (i + j))) σ) : O2 cx fx E d (binaryOp .Add) (.dat (.int i)) (.dat (.int j)) m σ Q := fun A ρ s a b ok R ra rb => by
  obtain ⟨t, rfl⟩ := of_int ra; obtain ⟨u, rfl⟩ := of_int rb
  exact PyProof.Rows.add_int (VP.here R (dInt _ _) q _)
theorem O_sub {i j : Int} {Q : LV → Store → Prop} (q : Q (.dat (.int (i - j))) σ) : O2 cx fx E d (binaryOp .Sub) (.dat (.int i)) (.dat (.int j)) m σ Q := fun A ρ s a b ok R ra rb => by
  obtain ⟨t, rfl⟩ := of_int ra; obtain ⟨u, rfl⟩ := of_int rb
  exact PyProof.Rows.sub_int (VP.here R (dInt _ _) q _)
theorem O_mod {i j : Int} {Q : LV → Store → Prop} (hj : j ≠ 0) (q : Q (.dat (.int (i.fmod j))) σ) : O2 cx fx E d (binaryOp .Mod) (.dat (.int i)) (.dat (.int j)) m σ Q := fun A ρ s a b ok R ra rb => by
  obtain ⟨t, rfl⟩ := of_int ra; obtain ⟨u, rfl⟩ := of_int rb
  exact PyProof.Rows.mod_int hj (VP.here R (dInt _ _) q _)
theorem O_fdiv {i : Int} {Q : LV → Store → Prop} (q : Q (.dat (.int (i.fdiv 1000))) σ) : O2 cx fx E d (binaryOp .FloorDiv) (.dat (.int i)) (.dat (.int 1000)) m σ Q := fun A ρ s a b ok R ra rb => by
  obtain ⟨t, rfl⟩ := of_int ra; obtain ⟨u, rfl⟩ := of_int rb
  exact PyProof.Rows.floordiv_int (by decide) (VP.here R (dInt _ _) q _)
theorem O_eqi {i j : Int} {Q : LV → Store → Prop} (q : Q (.dat (.bool (i == j))) σ) : O2 cx fx E d (compareOp .Eq) (.dat (.int i)) (.dat (.int j)) m σ Q := fun A ρ s a b ok R ra rb => by
  obtain ⟨t, rfl⟩ := of_int ra; obtain ⟨u, rfl⟩ := of_int rb
  exact PyProof.Rows.eq_int (VP.now R (dBool _) q)
theorem O_nei {i j : Int} {Q : LV → Store → Prop} (q : Q (.dat (.bool (i != j))) σ) : O2 cx fx E d (compareOp .NotEq) (.dat (.int i)) (.dat (.int j)) m σ Q := fun A ρ s a b ok R ra rb => by
  obtain ⟨t, rfl⟩ := of_int ra; obtain ⟨u, rfl⟩ := of_int rb
  exact PyProof.Rows.ne_int (VP.now R (dBool _) q)
theorem O_lt {i j : Int} {Q : LV → Store → Prop} (q : Q (.dat (.bool (decide (i < j)))) σ) : O2 cx fx E d (compareOp .Lt) (.dat (.int i)) (.dat (.int j)) m σ Q := fun A ρ s a b ok R ra rb => by
  obtain ⟨t, rfl⟩ := of_int ra; obtain ⟨u, rfl⟩ := of_int rb
  exact PyProof.Rows.lt_int (VP.now R (dBool _) q)
theorem O_gt {i j : Int} {Q : LV → Store → Prop} (q : Q (.dat (.bool (decide (j < i)))) σ) : O2 cx fx E d (compareOp .Gt) (.dat (.int i)) (.dat (.int j)) m σ Q := fun A ρ s a b ok R ra rb => by
  obtain ⟨t, rfl⟩ := of_int ra; obtain ⟨u, rfl⟩ := of_int rb
  exact PyProof.Rows.gt_int (VP.now R (dBool _) q)
theorem O_ge {i j : Int} {Q : LV → Store → Prop} (q : Q (.dat (.bool (decide (j ≤ i)))) σ) : O2 cx fx E d (compareOp .GtE) (.dat (.int i)) (.dat (.int j)) m σ Q := fun A ρ s a b ok R ra rb => by
  obtain ⟨t, rfl⟩ := of_int ra; obtain ⟨u, rfl⟩ := of_int rb
  exact PyProof.Rows.ge_int (VP.now R (dBool _) q)
theorem O_eqs {x y : Str} {Q : LV → Store → Prop} (q : Q (.dat (.bool (sb x y))) σ) : O2 cx fx E d (compareOp .Eq) (.dat (.str x)) (.dat (.str y)) m σ Q := fun A ρ s a b ok R ra rb => by
  obtain ⟨t, rfl⟩ := of_str ra; obtain ⟨u, rfl⟩ := of_str rb
  have e : (x == y) = sb x y := by
    rw [Bool.eq_iff_iff, sb_iff, beq_iff_eq]
  exact PyProof.Rows.eq_str (by rw [e]; exact VP.now R (dBool _) q)
theorem O_nes {x y : Str} {Q : LV → Store → Prop} (q : Q (.dat (.bool (!sb x y))) σ) : O2 cx fx E d (compareOp .NotEq) (.dat (.str x)) (.dat (.str y)) m σ Q := fun A ρ s a b ok R ra rb => by
  obtain ⟨t, rfl⟩ := of_str ra; obtain ⟨u, rfl⟩ := of_str rb
  have e : (x != y) = !sb x y := by
    show (!(x == y)) = _
    congr 1
    rw [Bool.eq_iff_iff, sb_iff, beq_iff_eq]
  exact PyProof.Rows.ne_str (by rw [e]; exact VP.now R (dBool _) q)
noncomputable def isNoneB : LV → Bool
  | .dat .none => true
  | _ => false
theorem none_rep {l : LV} {v : Value} {h : Heap} (hl : ∀ c, l ≠ .con c) (r : LRep ρ h l v) : (v == Value.none) = isNoneB l := by
  cases l with
  | dat d => obtain ⟨as, r, _⟩ := r; cases r <;> rfl
  | loc n => obtain ⟨a, _, rfl⟩ := r; rfl
  | con c => exact absurd rfl (hl c)
theorem O_is {l : LV} {Q : LV → Store → Prop} (q : Q (.dat (.bool (isNoneB l))) σ) (hl : ∀ c, l ≠ .con c := by intro _ h; cases h) : O2 cx fx E d (compareOp .Is) l (.dat .none) m σ Q := fun A ρ s a b ok R ra rb => by
  rw [of_none rb]
  exact is_none (by rw [none_rep hl ra]; exact VP.now R (dBool _) q)
theorem O_isnot {l : LV} {Q : LV → Store → Prop} (q : Q (.dat (.bool (!isNoneB l))) σ) (hl : ∀ c, l ≠ .con c := by intro _ h; cases h) : O2 cx fx E d (compareOp .IsNot) l (.dat .none) m σ Q := fun A ρ s a b ok R ra rb => by
  rw [of_none rb]
  exact isNot_none (by rw [none_rep hl ra]; exact VP.now R (dBool _) q)
/-- data at large -/
theorem O_eqd {x y : PyData} {Q : LV → Store → Prop} (hx : SeqAt.shaped x = true) (hy : SeqAt.shaped y = true) (q : Q (.dat (.bool (PyData.eqv x y))) σ) : O2 cx fx E d (compareOp .Eq) (.dat x) (.dat y) m σ Q := fun A ρ s a b ok R ra rb => by
  obtain ⟨as, ra, _⟩ := ra; obtain ⟨bs, rb, _⟩ := rb
  exact eq_dataH ra rb hx hy (by have := ok.units; show _ < 9900; lia) (VP.now R (dBool _) q)
theorem O_ned {x y : PyData} {Q : LV → Store → Prop} (hx : SeqAt.shaped x = true) (hy : SeqAt.shaped y = true) (q : Q (.dat (.bool (!PyData.eqv x y))) σ) : O2 cx fx E d (compareOp .NotEq) (.dat x) (.dat y) m σ Q := fun A ρ s a b ok R ra rb => by
  obtain ⟨as, ra, _⟩ := ra; obtain ⟨bs, rb, _⟩ := rb
  exact ne_dataH ra rb hx hy (by have := ok.units; show _ < 9900; lia) (VP.now R (dBool _) q)
end
section
variable {cx : Cx} {fx : Fx} {E : Value → Shared → Prop} {d : Nat} {m : Locals} {σ : Store} {ρ : RM} {s : Shared}
theorem DReps.get {h : Heap} {ds : List PyData} {vs : List Value} (r : DReps ρ h ds vs) {j : Nat} {x : PyData} (e : ds[j]? = some x) : ∃ v, vs[j]? = some v ∧ DRep ρ h x v := by
  obtain ⟨as, r, f⟩ := r
  have : ∀ {vs : List Value} {ds : List PyData} {as : List Addr} {j : Nat}, ReadsAll h vs ds as → (∀ b ∈ as, Frozen ρ h b) → ds[j]? = some x → ∃ v, vs[j]? = some v ∧ DRep ρ h x v := by
    intro vs
    induction vs with
    | nil => intro ds as j r _ e; cases r; simp at e
    | cons v vs ih =>
      intro ds as j r f e
      cases r with
      | cons h1 h2 =>
        cases j with
        | zero => simp at e; subst e; exact ⟨v, rfl, _, h1, fun b hb => f b (List.mem_append_left _ hb)⟩
        | succ j => simpa using ih h2 (fun b hb => f b (List.mem_append_right _ hb)) (by simpa using e)
  exact this r f e
/-! subscripts -/
theorem T_sub {value slice : Expr} {p : Pos} {Q : LV → Store → Prop} (h : TE cx fx E d value m σ (BinP cx fx E d (subscriptTail value slice) slice m Q)) : TE cx fx E d (.Subscript value slice p) m σ Q := fun A ρ s ok R =>
  Subscript_ (wpAny_mono (h A ρ s ok R) (fun a s₁ ⟨x, σ₁, ρ₁, X₁, R₁, r₁, h₁⟩ => wpAny_mono (h₁ A ρ₁ s₁ ok R₁) (fun b s₂ ⟨y, σ₂, ρ₂, X₂, R₂, r₂, h₂⟩ =>
    wpAny_mono (h₂ A ρ₂ s₂ a b ok R₂ (r₁.ext R₁ X₂) r₂) (fun _ _ z => VP.up (X₁.trans X₂) z) fun _ _ x => x) fun _ _ x => x) fun _ _ x => x)
theorem seqIndex_nat {k : Int} {n : Nat} (h0 : 0 ≤ k) (h1 : k.toNat < n) : seqIndex? k n = some k.toNat := by
  have e : (k : Int) = (k.toNat : Int) := by lia
  unfold seqIndex?
  have h2 : ¬ k < 0 := by lia
  simp only [h2, if_false]
  have : (decide (0 ≤ k) && decide (k < (n : Int))) = true := by simp; lia
  simp [this]
noncomputable abbrev PlainSub (slice : Expr) : Prop := ∀ t k u, subscripted slice false (.ref t) (.int k u) = operate [.ref t, .int k u] (getItem (.ref t) (.int k u))
theorem O_itemT {value slice : Expr} {ds : List PyData} {k : Int} {x : PyData} {Q : LV → Store → Prop} (h0 : 0 ≤ k) (hx : ds[k.toNat]? = some x) (q : Q (.dat x) σ) (hb : k < 2 ^ 63 := by decide) (hs : PlainSub slice := by intro _ _ _; with_unfolding_all rfl) :
    O2 cx fx E d (subscriptTail value slice) (.dat (.tuple ds)) (.dat (.int k)) m σ Q := fun A ρ s a b ok R ra rb => by
  obtain ⟨a, vs, rfl, ht, D⟩ := of_tup ra
  obtain ⟨u, rfl⟩ := of_int rb
  obtain ⟨v, hv, r⟩ := D.get hx
  have hlt : k.toNat < vs.size := by
    have := (List.getElem?_eq_some_iff.mp hv).1
    simpa using this
  exact tail_any ht.typeIs slot_tuple_getitem.lookup (getItem_tuple ht (by lia) hb (seqIndex_nat h0 hlt) (by simpa using hv) (VP.now R (l := .dat x) r q)) (hs _ _ _)
theorem O_itemL {value slice : Expr} {ds : List PyData} {k : Int} {x : PyData} {Q : LV → Store → Prop} (h0 : 0 ≤ k) (hx : ds[k.toNat]? = some x) (q : Q (.dat x) σ) (hb : k < 2 ^ 63 := by decide) (hs : PlainSub slice := by intro _ _ _; with_unfolding_all rfl) :
    O2 cx fx E d (subscriptTail value slice) (.dat (.list ds)) (.dat (.int k)) m σ Q := fun A ρ s a b ok R ra rb => by
  obtain ⟨a, vs, rfl, ht, D⟩ := of_list ra
  obtain ⟨u, rfl⟩ := of_int rb
  obtain ⟨v, hv, r⟩ := D.get hx
  exact tail_any ht.typeIs slot_list_getitem.lookup (wpAny_getItem_list ht h0 hb (by simpa using hv) (VP.now R (l := .dat x) r q)) (hs _ _ _)
/-- a named list -/
theorem named {n : Nat} {o : AO} (R : Rel cx fx ρ m σ s) (h : σ n = o) (hf : o ≠ .free := by intro h; cases h) (hl : n < 1000 := by decide) : ∃ a, ρ n = some a ∧ ORep cx.w ρ s.heap o a := by
  obtain ⟨a, e, r, _⟩ := R.toRelC.at_ h hf hl
  exact ⟨a, e, r⟩
theorem locEq {h : Heap} {n : Nat} {a : Addr} {v : Value} (e : ρ n = some a) (r : LRep ρ h (.loc n) v) : v = .ref a := by
  obtain ⟨b, e', rfl⟩ := r
  rw [e] at e'; cases e'; rfl
theorem O_itemN {value slice : Expr} {n : Nat} {ds : List PyData} {k : Int} {x : PyData} {Q : LV → Store → Prop} (hn : σ n = .list ds) (h0 : 0 ≤ k) (hx : ds[k.toNat]? = some x) (q : Q (.dat x) σ) (hb : k < 2 ^ 63 := by decide) (hl : n < 1000 := by decide) (hs : PlainSub slice := by intro _ _ _; with_unfolding_all rfl) :
    O2 cx fx E d (subscriptTail value slice) (.loc n) (.dat (.int k)) m σ Q := fun A ρ s a b ok R ra rb => by
  obtain ⟨a, e, vs, j, g, D⟩ := named R hn (hl := hl)
  obtain rfl := locEq e ra
  obtain ⟨u, rfl⟩ := of_int rb
  obtain ⟨v, hv, r⟩ := D.get hx
  have ht : s.heap.IsList a vs.toArray := ⟨_, g, rfl, _, rfl⟩
  exact tail_any ht.typeIs slot_list_getitem.lookup (wpAny_getItem_list ht h0 hb (by simpa using hv) (VP.now R (l := .dat x) r q)) (hs _ _ _)
/-! attributes -/
noncomputable def FA (w : World) (C : Addr) (name : Str) : Prop := plainGet (KF w.params) C name = true ∧ hasDictIn (KF w.params) C = true ∧ ∃ attr, findIn (KF w.params) (.ref C) name = some attr ∧ noGet (KF w.params) attr = true
theorem FRep.get {h : Heap} {name : Str} {l : LV} : ∀ {fs : List (Str × LV)} {es : List DictEntry}, FRep ρ h fs es → lk fs name = some l → ∃ v, getL name es = some (some v) ∧ LRep ρ h l v
  | [], [], _, e => by cases e
  | f :: fs, e :: es, ⟨⟨t, k⟩, r, _, rest⟩, q => by
    rw [lk_cons] at q
    by_cases hq : f.1 = name
    · rw [if_pos hq] at q; cases q
      refine ⟨e.val, ?_, r⟩
      unfold getL
      have : e.key.isStr name = true := by rw [k]; show (f.1 == name) = true; rw [hq]; exact beq_self_eq_true _
      rw [List.find?_cons, this]
    · rw [if_neg hq] at q
      obtain ⟨v, g, r'⟩ := FRep.get rest q
      refine ⟨v, ?_, r'⟩
      have n : e.key.isStr name = false := by rw [k]; show (f.1 == name) = false; exact beq_eq_false_iff_ne.mpr hq
      have rk : e.refKey = false := by unfold DictEntry.refKey; rw [k]
      unfold getL at g ⊢
      rw [List.find?_cons, n, List.any_cons, rk, Bool.false_or]
      exact g
  | [], _ :: _, r, _ => r.elim
  | _ :: _, [], r, _ => r.elim
theorem FRep.none {h : Heap} {name : Str} : ∀ {fs : List (Str × LV)} {es : List DictEntry}, FRep ρ h fs es → lk fs name = none → getL name es = some none
  | [], [], _, _ => rfl
  | f :: fs, e :: es, ⟨⟨t, k⟩, r, _, rest⟩, q => by
    rw [lk_cons] at q
    by_cases hq : f.1 = name
    · rw [if_pos hq] at q; cases q
    · rw [if_neg hq] at q
      have g := FRep.none rest q
      have n : e.key.isStr name = false := by rw [k]; show (f.1 == name) = false; exact beq_eq_false_iff_ne.mpr hq
      have rk : e.refKey = false := by unfold DictEntry.refKey; rw [k]
      unfold getL at g ⊢
      rw [List.find?_cons, n, List.any_cons, rk, Bool.false_or]
      exact g
  | [], _ :: _, r, _ => r.elim
  | _ :: _, [], r, _ => r.elim
theorem handed {h : Heap} {l : LV} {v : Value} (hl : ∀ c, l ≠ .con c) (r : LRep ρ h l v) : handedIn v = true := by
  cases l with
  | dat d => obtain ⟨as, r, _⟩ := r; cases r <;> rfl
  | loc n => obtain ⟨a, _, rfl⟩ := r; rfl
  | con c => exact absurd rfl (hl c)
/-- an object of one of the text's classes -/
theorem inst {n k : Nat} {C : Addr} {fs : List (Str × LV)} (R : Rel cx fx ρ m σ s) (hn : σ n = .inst C k) (hk : σ k = .ns fs) (hl : n < 1000) : ∃ a dx es j, ρ n = some a ∧ ρ k = some dx ∧ k < 32 ∧ s.heap.get? dx = some (dictOf es j) ∧ FRep ρ s.heap fs es ∧ InstAt s.heap a ⟨.ref C, some dx, .plain, #[]⟩ C (some (dictOf es j)) := by
  obtain ⟨a, e, dx, e1, e2, e3⟩ := named R hn (hl := hl)
  obtain ⟨dx', e', es, j, g, F⟩ := named R hk (hl := Nat.lt_trans e2 (by decide))
  rw [e1] at e'; cases e'
  exact ⟨a, dx, es, j, e, e1, e2, g, F, ⟨e3, rfl, rfl, g⟩⟩
inductive AttrP (cx : Cx) (name : Str) (Q : LV → Store → Prop) (l : LV) (σ : Store) : Prop where
  | mk (n : Nat) (C : Addr) (k : Nat) (fs : List (Str × LV)) (l' : LV) (hl : l = .loc n) (hn : σ n = .inst C k) (hk : σ k = .ns fs) (hlk : lk fs name = some l') (hf : FA cx.w C name) (hlt : n < 1000) (hc : ∀ c, l' ≠ .con c) (q : Q l' σ)
theorem T_attr {o : Expr} {name : Str} {p : Pos} {Q : LV → Store → Prop} (ok' : CxOk cx) (h : TE cx fx E d o m σ (AttrP cx name Q))
    (he : eval (.Attribute o name p) fx.env = (do
      let o' ← eval o fx.env
      standAt p.atName
      let r ← holding [o'] (getAttr o' name true)
      letTemporaryGo o o' r
      pure r) := by with_unfolding_all rfl) : TE cx fx E d (.Attribute o name p) m σ Q := fun A ρ s ok R =>
  Attribute_any_ (wpAny_mono (h A ρ s ok R) (fun v s₁ ⟨l, σ₁, ρ₁, X₁, R₁, r₁, n, C, k, fs, l', hl, hn, hk, hlk, ⟨f1, f2, attr, f3, f4⟩, hlt, hc, q⟩ => by
    subst hl
    obtain ⟨a, dx, es, j, e, e1, e2, g, F, I⟩ := inst R₁ hn hk hlt
    obtain rfl := locEq e r₁
    obtain ⟨v, gv, rv⟩ := F.get hlk
    exact get_value (ok'.K.keeps R₁.base) I (plainGet_of f1).1 (findObj_own f2 f3 f4 gv) (handed hc rv) (VP.up X₁ (VP.here R₁ rv q _))) fun _ _ x => x) he
/-! calls -/
/-- a call with its arguments at hand -/
noncomputable def OC (cx : Cx) (fx : Fx) (E : Value → Shared → Prop) (d : Nat) (f : Value) (ls : List LV) (m : Locals) (σ : Store) (Q : LV → Store → Prop) : Prop :=
  ∀ A ρ s vs, AOk A d fx → Rel cx fx ρ m σ s → All2 (LRep ρ s.heap) ls vs → wpAny (model PW cx.w) A (call f vs) (VP cx fx ρ m s Q) E s
noncomputable def CallP (cx : Cx) (fx : Fx) (E : Value → Shared → Prop) (d : Nat) (f : Value) (m : Locals) (Q : LV → Store → Prop) : List LV → Store → Prop := fun ls σ₂ => OC cx fx E d f ls m σ₂ Q
noncomputable def CallM (cx : Cx) (fx : Fx) (E : Value → Shared → Prop) (d : Nat) (f : Value) (n : Nat) (m : Locals) (Q : LV → Store → Prop) : List LV → Store → Prop := fun ls σ₂ => OC cx fx E d f (.loc n :: ls) m σ₂ Q
theorem All2.app {α β : Type} {P : α → β → Prop} {a b : List α} {x y : List β} (h : All2 P a x) (k : All2 P b y) : All2 P (a ++ b) (x ++ y) := by
  induction h with
  | nil => exact k
  | cons h _ ih => exact .cons h ih
noncomputable abbrev Plain (fx : Fx) (pos : Pos) (es : List Expr) : Prop := (backTo pos (starEach es fx.env)).any (·.1) = false
theorem evalArgs_sp0 {M : Model} {A : Around} {f : Value} {Q : Args → Shared → Prop} (h : wpAny M A (spliced []) (fun vs s' => Q ⟨vs, []⟩ s') E s) : wpAny M A (evalArgs f true [] []) Q E s := by
  unfold evalArgs
  show wpAny M A (spliced [] >>= _) Q E s
  refine wpAny_bind (wpAny_mono h (fun vs s' h' => ?_) fun _ _ x => x)
  refine wpAny_holding ?_
  exact wpAny_bind (wpAny_pure (wpAny_bind (wpAny_pure (wpAny_pure h'))))
/-- behind the callee's name -/
theorem callW {pos : Pos} {f : Value} {first : List Value} {ls : List LV} {es : List Expr} {Q : LV → Store → Prop} (ok' : CxOk cx) (hk : keepIn (KF cx.w.params) f = true) {A : Around} (ok : AOk A d fx) (R : Rel cx fx ρ m σ s) (rf : All2 (LRep ρ s.heap) ls first)
    (h : TEs cx fx E d pos es m σ (fun ls' σ₁ => OC cx fx E d f (ls ++ ls') m σ₁ Q)) (hp : Plain fx pos es) :
    wpAny (model PW cx.w) A (callWith pos f first (backTo pos (starEach es fx.env)) []) (VP cx fx ρ m s Q) E s := by
  refine callWith_of (P := (KF cx.w.params).In) (by rw [hp]; rfl) (keeps_K hk) ?_
  have fin : wpAny (model PW cx.w) A (spliced (backTo pos (starEach es fx.env))) (fun vs s₁ => (KF cx.w.params).In s₁.heap ∧ wpAny (model PW cx.w) A (call f (first ++ vs) []) (VP cx fx ρ m s Q) E s₁) E s :=
    wpAny_mono (h A ρ s ok R) (fun vs s₁ ⟨ls', σ₁, ρ₁, X₁, R₁, r₁, h₁⟩ => ⟨ok'.K.keeps R₁.base, wpAny_mono (h₁ A ρ₁ s₁ (first ++ vs) ok R₁ ((LReps.ext R X₁ rf).app r₁)) (fun _ _ z => VP.up X₁ z) fun _ _ x => x⟩) fun _ _ x => x
  unfold Plain at hp
  revert hp fin
  cases backTo pos (starEach es fx.env) with
  | nil => intro hp fin; exact evalArgs_sp0 fin
  | cons p rest =>
    obtain ⟨b, t⟩ := p
    intro hp fin
    rw [List.any_cons] at hp
    obtain rfl : b = false := (Bool.or_eq_false_iff.mp hp).1
    exact evalArgs_plain fin
/-- a def or a class of the text, by its name -/
theorem T_call {x : Str} {np pos : Pos} {es : List Expr} {Q : LV → Store → Prop} {a : Addr} (ok' : CxOk cx) (hk : keepIn (KF cx.w.params) (.ref a) = true) (h : TE cx fx E d (.Name x np) m σ (fun l σ₁ => l = .con (.ref a) ∧ TEs cx fx E d pos es m σ₁ (CallP cx fx E d (.ref a) m Q)))
    (hp : Plain fx pos es := by rfl) : TE cx fx E d (.Call (.Name x np) es [] pos) m σ Q := fun A ρ s ok R =>
  wpAny_Call_ofName (wpAny_mono (h A ρ s ok R) (fun v s₁ ⟨l, σ₁, ρ₁, X₁, R₁, r₁, e, h₁⟩ => by
    subst e
    obtain rfl : v = .ref a := r₁
    exact wpAny_mono (callW (ls := []) (first := []) ok' hk ok R₁ .nil h₁ hp) (fun _ _ z => VP.up X₁ z) fun _ _ x => x) fun _ _ x => x)
/-- what the class must say of a method -/
noncomputable def FM (w : World) (C : Addr) (name : Str) (f : Addr) : Prop := plainGet (KF w.params) C name = true ∧ findIn (KF w.params) (.ref C) name = some (some (.ref f)) ∧ typeIn (KF w.params) (.ref f) = some (.type "function") ∧ keepIn (KF w.params) (.ref f) = true
inductive MethP (cx : Cx) (fx : Fx) (E : Value → Shared → Prop) (d : Nat) (name : Str) (pos : Pos) (es : List Expr) (m : Locals) (Q : LV → Store → Prop) (l : LV) (σ : Store) : Prop where
  | mk (n : Nat) (C : Addr) (k : Nat) (fs : List (Str × LV)) (f : Addr) (hl : l = .loc n) (hn : σ n = .inst C k) (hk : σ k = .ns fs) (hlk : lk fs name = none) (hf : FM cx.w C name f) (hlt : n < 1000) (h : TEs cx fx E d pos es m σ (CallM cx fx E d (.ref f) n m Q))
theorem T_meth {o : Expr} {name : Str} {ap pos : Pos} {es : List Expr} {Q : LV → Store → Prop} (ok' : CxOk cx)
    (h : TE cx fx E d o m σ (MethP cx fx E d name pos es m Q))
    (hp : Plain fx pos es := by rfl)
    (he : eval (.Call (.Attribute o name ap) es [] pos) fx.env = (do
      let ov ← eval o fx.env
      standAt ap.atName
      let (f, first) ← holding [ov] (getMethod ov name (do return (← importBound o fx.env).getD true))
      callWith pos f first (backTo pos (starEach es fx.env)) (backToKw pos (keywordEach [] fx.env))) := by rfl) : TE cx fx E d (.Call (.Attribute o name ap) es [] pos) m σ Q := fun A ρ s ok R =>
  methodCall_KW (wpAny_mono (h A ρ s ok R) (fun v s₁ ⟨l, σ₁, ρ₁, X₁, R₁, r₁, n, C, k, fs, f, hl, hn, hk, hlk, ⟨f1, f2, f3, f4⟩, hlt, h₁⟩ => by
    subst hl
    obtain ⟨a, dx, es', j, e, e1, e2, g, F, I⟩ := inst R₁ hn hk hlt
    obtain rfl := locEq e r₁
    refine method_fn (ok'.K.keeps R₁.base) I (plainGet_of f1).1 (plainGet_of f1).2 f2 f3 (by show (lookIn name (dictOf es' j)).map _ = _; rw [lookIn_dict, F.none hlk]; rfl) ?_
    exact wpAny_mono (callW (ls := [.loc n]) (first := [.ref a]) ok' f4 ok R₁ (.cons ⟨a, e, rfl⟩ .nil) h₁ hp) (fun _ _ z => VP.up X₁ z) fun _ _ x => x) fun _ _ x => x) he
end
noncomputable abbrev permH : Nat → Prop := fun n => n < 32 ∨ 1000 ≤ n
inductive Fl where
  | next | brk | cont
  | ret (l : LV)
noncomputable def FlRep (ρ : RM) (h : Heap) : Fl → Flow → Prop
  | .next, .next => True
  | .brk, .brk => True
  | .cont, .cont => True
  | .ret l, .ret v => LRep ρ h l v
  | _, _ => False
inductive SP (cx : Cx) (fx : Fx) (ρ : RM) (s : Shared) (Q : Fl → Locals → Store → Prop) (f : Flow) (s' : Shared) : Prop where
  | mk (fl : Fl) (m' : Locals) (σ' : Store) (ρ' : RM) (X : Ext permH (fun a => a = fx.L) ρ s.heap ρ' s'.heap) (R : Rel cx fx ρ' m' σ' s') (r : FlRep ρ' s'.heap fl f) (q : Q fl m' σ')
noncomputable def TX (cx : Cx) (fx : Fx) (E : Value → Shared → Prop) (d : Nat) (st : Stmt) (m : Locals) (σ : Store) (Q : Fl → Locals → Store → Prop) : Prop :=
  ∀ A ρ s, AOk A d fx → Rel cx fx ρ m σ s → wpAny (model PW cx.w) A (exec st fx.env) (SP cx fx ρ s Q) E s
noncomputable def TS (cx : Cx) (fx : Fx) (E : Value → Shared → Prop) (d : Nat) (ss : List Stmt) (m : Locals) (σ : Store) (Q : Fl → Locals → Store → Prop) : Prop :=
  ∀ A ρ s, AOk A d fx → Rel cx fx ρ m σ s → wpAny (model PW cx.w) A (execs ss fx.env) (SP cx fx ρ s Q) E s
section
variable {cx : Cx} {fx : Fx} {E : Value → Shared → Prop} {d : Nat} {m : Locals} {σ : Store} {ρ : RM} {s : Shared}
theorem SP.up {ρ₁ s₁ Q f s₂} (X : Ext permH (fun a => a = fx.L) ρ s.heap ρ₁ s₁.heap) (h : SP cx fx ρ₁ s₁ Q f s₂) : SP cx fx ρ s Q f s₂ :=
  let ⟨fl, m', σ', ρ', X', R, r, q⟩ := h; ⟨fl, m', σ', ρ', X.trans X', R, r, q⟩
theorem Ext.st {ρ' h'} (X : Ext allN noS ρ s.heap ρ' h') : Ext permH (fun a => a = fx.L) ρ s.heap ρ' h' := X.weaken (fun _ _ => trivial) fun _ q => q.elim
theorem TS.mono {ss : List Stmt} {Q Q' : Fl → Locals → Store → Prop} (h : TS cx fx E d ss m σ Q) (k : ∀ fl m' σ', Q fl m' σ' → Q' fl m' σ') : TS cx fx E d ss m σ Q' := fun A ρ s ok R =>
  wpAny_mono (h A ρ s ok R) (fun _ _ ⟨fl, m', σ', ρ', X, R', r, q⟩ => ⟨fl, m', σ', ρ', X, R', r, k fl m' σ' q⟩) fun _ _ x => x
theorem TX.mono {ss : Stmt} {Q Q' : Fl → Locals → Store → Prop} (h : TX cx fx E d ss m σ Q) (k : ∀ fl m' σ', Q fl m' σ' → Q' fl m' σ') : TX cx fx E d ss m σ Q' := fun A ρ s ok R =>
  wpAny_mono (h A ρ s ok R) (fun _ _ ⟨fl, m', σ', ρ', X, R', r, q⟩ => ⟨fl, m', σ', ρ', X, R', r, k fl m' σ' q⟩) fun _ _ x => x
theorem S_nil {Q : Fl → Locals → Store → Prop} (q : Q .next m σ) : TS cx fx E d [] m σ Q := fun A ρ s _ R => wpAny_execs_nil ⟨.next, m, σ, ρ, .refl _ _, R, trivial, q⟩
/-- what is done behind a statement -/
noncomputable def andThen (cx : Cx) (fx : Fx) (E : Value → Shared → Prop) (d : Nat) (rest : List Stmt) (Q : Fl → Locals → Store → Prop) : Fl → Locals → Store → Prop := fun fl m' σ' =>
  match fl with
  | .next => TS cx fx E d rest m' σ' Q
  | fl => Q fl m' σ'
theorem S_cons {st : Stmt} {rest : List Stmt} {Q : Fl → Locals → Store → Prop} (h : TX cx fx E d st m σ (andThen cx fx E d rest Q)) : TS cx fx E d (st :: rest) m σ Q := fun A ρ s ok R =>
  wpAny_execs_cons (wpAny_mono (h A ρ s ok R) (fun f s₁ ⟨fl, m₁, σ₁, ρ₁, X₁, R₁, r₁, q⟩ => by
    cases fl <;> cases f <;> first | exact r₁.elim | exact wpAny_mono (q A ρ₁ s₁ ok R₁) (fun _ _ z => SP.up X₁ z) (fun _ _ x => x) | exact ⟨_, m₁, σ₁, ρ₁, X₁, R₁, r₁, q⟩) fun _ _ x => x)
/-- a local is stored -/
theorem Rel.store (R : Rel cx fx ρ m σ s) {x : Str} {l : LV} {v : Value} {h' : Heap} {t : Nat} {mc : Str → Option Value} (hn : h'.Ns fx.L (fun y => if y = x then some v else mc y)) (hs : Heap.SameBut fx.L s.heap h') (M : MRep ρ s.heap m mc) (r : LRep ρ s.heap l v) :
    Rel cx fx ρ (putl m x l) σ { s with heap := h', toks := t } ∧ Ext permH (fun a => a = fx.L) ρ s.heap ρ h' := by
  obtain ⟨mc₀, ⟨oL, es, ep, eL, dL, _⟩, _⟩ := R.fr
  have X : Ext allN (fun a => a = fx.L) ρ s.heap ρ h' := ⟨fun _ _ _ e => e, fun _ _ e => .inl e, fun b o e _ q => (hs.2 b q).trans e, fun b o e => by
    by_cases z : b = fx.L
    · obtain ⟨o', _, _, e', _⟩ := hn
      exact ⟨o', z ▸ e'⟩
    · exact ⟨o, (hs.2 b z).trans e⟩⟩
  have C := X.carry R.toRelC (fun a q => ⟨oL, q ▸ eL, fun vs k z => by rw [dL] at z; cases z⟩)
  obtain ⟨oL', es', ep', eL', dL', kk⟩ := id hn
  have off : ∀ n a, n < 1000 → ρ n = some a → a ≠ fx.L := fun n a hl e q => (R.st n a hl e).2.1 fx.env (.head _) (q ▸ rfl)
  have nb : cx.base.get? fx.L = none := by
    obtain ⟨_, ⟨L, o, hf, hb, _⟩, _⟩ := R.ff
    cases hf; exact hb
  refine ⟨⟨⟨fun b o e => (hs.2 b fun q => ?_).trans (R.base b o e), fun n a hl e => ?_, fun n a hl e => ?_, R.dom, R.inj, ff_on R.ff fun e he a o hf ho hd => ?_, R.gens, R.os⟩, ⟨_, hn, fun y l' e => ?_⟩, ?_, R.Lout, fun c hc => ?_⟩, X.weaken (fun _ _ => trivial) fun _ q => q⟩
  · rw [q, nb] at e; cases e
  · obtain ⟨h1, h2, h3⟩ := R.st n a hl e
    exact ⟨h1, h2, h3.carry C (fun _ _ _ e => e) (hs.2 a (off n a hl e))⟩
  · obtain ⟨o, q, r⟩ := R.hi n a hl e
    exact ⟨o, (hs.2 a fun w => r.2 fx.env (.head _) (w ▸ rfl)).trans q, r⟩
  · by_cases w : a = fx.L
    · subst w; exact ⟨_, eL', fun vs q => by rw [dL'] at q; cases q⟩
    · exact ⟨o, (hs.2 a w).trans ho, hd⟩
  · rw [lk_putl] at e
    by_cases w : x = y
    · rw [if_pos w] at e; cases e
      exact ⟨v, by simp [w], LRep.carry C (fun _ _ _ q => q) r⟩
    · rw [if_neg w] at e
      obtain ⟨u, eu, ru⟩ := M y l' e
      exact ⟨u, by simp [Ne.symm w, eu], LRep.carry C (fun _ _ _ q => q) ru⟩
  · exact ⟨R.hist.carry.trans C, fun e he a o hf h0 => (hs.2 a fun q => R.Lout e he (q ▸ hf)).trans (R.hist.frames e he a o hf h0)⟩
  · obtain ⟨h1, ⟨u, ⟨o, e, d⟩, r'⟩, h2⟩ := R.cv c hc
    refine ⟨h1, ⟨u, ⟨o, (hs.2 _ fun q => ?_).trans e, d⟩, LRepO.carry C (fun _ _ _ q => q) r'⟩, h2⟩
    rw [q, eL] at e; cases e; rw [dL] at d; cases d
theorem X_assign {x : Str} {p' p : Pos} {value : Expr} {Q : Fl → Locals → Store → Prop} (h : TE cx fx E d value m σ (fun l σ₁ => Q .next (putl m x l) σ₁)) (hk : fx.cs.kind = .function := by rfl) (hx : fx.env.kindOf x = some .local := by rfl)
    (hs : swapsWith value (some (.Name x p')) p.line fx.env = pure false := by rfl) : TX cx fx E d (.Assign [.Name x p'] value p) m σ Q := fun A ρ s ok R =>
  wpAny_Assign_Name (wpAny_mono (h A ρ s ok R) (fun v s₁ ⟨l, σ₁, ρ₁, X₁, R₁, r₁, q⟩ => by
    obtain ⟨mc, hn, M⟩ := R₁.fr
    refine wpAny_storeName_local hx hn (fun h' hn' hs' => ?_) (by show (fx.cs.kind == .class || (fx.cs.kind == .module && fx.L != mainGlobals)) = false; rw [hk]; rfl)
    obtain ⟨R₂, X₂⟩ := R₁.store (t := s₁.toks + 1) hn' hs' M r₁
    exact ⟨.next, _, σ₁, ρ₁, X₁.st.trans X₂, R₂, trivial, q⟩) fun _ _ x => x) hs
noncomputable def plainV : LV → Bool
  | .dat .none => true
  | .dat (.int _) => true
  | _ => false
inductive ExpP (Q : Fl → Locals → Store → Prop) (m : Locals) (l : LV) (σ : Store) : Prop where
  | mk (h : plainV l = true) (q : Q .next m σ)
theorem X_expr {e : Expr} {p : Pos} {Q : Fl → Locals → Store → Prop} (h : TE cx fx E d e m σ (ExpP Q m)) (hi : interactive fx.env = false := by rfl) (hs : swapsWith e none p.line fx.env = pure false := by rfl) : TX cx fx E d (.Expr e p) m σ Q := fun A ρ s ok R =>
  wpAny_Expr (wpAny_mono (h A ρ s ok R) (fun v s₁ ⟨l, σ₁, ρ₁, X₁, R₁, r₁, pl, q⟩ => by
    have fin : SP cx fx ρ s Q .next s₁ := ⟨.next, m, σ₁, ρ₁, X₁.st, R₁, trivial, q⟩
    cases l with
    | dat dd => cases dd <;> first | (obtain ⟨_, r, _⟩ := r₁; cases r; exact fin) | cases pl
    | loc _ => cases pl
    | con _ => cases pl) fun _ _ x => x) hi hs
theorem X_ret {e : Expr} {p : Pos} {Q : Fl → Locals → Store → Prop} (h : TE cx fx E d e m σ (fun l σ₁ => Q (.ret l) m σ₁)) : TX cx fx E d (.Return (some e) p) m σ Q := fun A ρ s ok R =>
  wpAny_Return_some (wpAny_mono (h A ρ s ok R) (fun v s₁ ⟨l, σ₁, ρ₁, X₁, R₁, r₁, q⟩ => ⟨.ret l, m, σ₁, ρ₁, X₁.st, R₁, r₁, q⟩) fun _ _ x => x)
noncomputable def IfP (cx : Cx) (fx : Fx) (E : Value → Shared → Prop) (d : Nat) (b o : List Stmt) (m : Locals) (Q : Fl → Locals → Store → Prop) : Bool → Store → Prop := fun c σ₁ => Br c (TS cx fx E d b m σ₁ Q) (TS cx fx E d o m σ₁ Q)
theorem X_if {t : Expr} {b o : List Stmt} {p : Pos} {Q : Fl → Locals → Store → Prop} (h : TT cx fx E d t m σ (IfP cx fx E d b o m Q)) : TX cx fx E d (.If t b o p) m σ Q := fun A ρ s ok R =>
  wpAny_If (wpAny_mono (h A ρ s ok R) (fun c s₁ ⟨σ₁, ρ₁, X₁, R₁, h₁, h₂⟩ => by
    cases c with
    | true => exact wpAny_mono (h₁ rfl A ρ₁ s₁ ok R₁) (fun _ _ z => SP.up X₁.st z) fun _ _ x => x
    | false => exact wpAny_mono (h₂ rfl A ρ₁ s₁ ok R₁) (fun _ _ z => SP.up X₁.st z) fun _ _ x => x) fun _ _ x => x)
theorem X_break {p : Pos} {Q : Fl → Locals → Store → Prop} (q : Q .brk m σ) : TX cx fx E d (.Break p) m σ Q := fun A ρ s ok R => wpAny_Break ⟨.brk, m, σ, ρ, .refl _ _, R, trivial, q⟩
theorem X_cont {p : Pos} {Q : Fl → Locals → Store → Prop} (q : Q .cont m σ) : TX cx fx E d (.Continue p) m σ Q := fun A ρ s ok R => wpAny_Continue ⟨.cont, m, σ, ρ, .refl _ _, R, trivial, q⟩
/-- a named list is frozen: it is data henceforth -/
noncomputable def thawV (n : Nat) (xs : List PyData) : LV → LV
  | .loc k => bif Nat.beq k n then .dat (.list xs) else .loc k
  | l => l
noncomputable def thaw (n : Nat) (xs : List PyData) (m : Locals) : Locals := m.map fun p => (p.1, thawV n xs p.2)
theorem lk_map {α : Type} (f : α → α) : ∀ (m : List (Str × α)) (x : Str), lk (m.map fun p => (p.1, f p.2)) x = (lk m x).map f
  | [], _ => rfl
  | p :: r, x => by
    rw [List.map_cons, lk_cons, lk_cons, lk_map f r x]
    by_cases h : p.1 = x
    · simp [h]
    · simp [h]
noncomputable def unR (ρ : RM) (n : Nat) : RM := fun k => if k = n then none else ρ k
theorem RelC.freeze {fs : List Env} (R : RelC cx fs ρ σ s) {n : Nat} (hn : 32 ≤ n) (hl : n < 1000) : RelC cx fs (unR ρ n) (upd σ n .free) s ∧ Carry ρ s.heap (unR ρ n) s.heap := by
  have C : Carry ρ s.heap (unR ρ n) s.heap := ⟨fun a o _ _ e _ _ => ⟨o, e, rfl, rfl⟩, fun a o _ _ e _ q => ⟨fun k z => by
    by_cases w : k = n
    · simp [unR, w] at z
    · simp [unR, w] at z; exact q k z, o, e, rfl, rfl⟩⟩
  refine ⟨⟨R.base, fun k a hk e => ?_, fun k a hk e => ?_, fun k e => ?_, fun k j a e1 e2 => ?_, R.ff, R.gens, R.os⟩, C⟩
  · by_cases w : k = n
    · simp [unR, w] at e
    · have e' : ρ k = some a := by simpa [unR, w] using e
      obtain ⟨h1, h2, h3⟩ := R.st k a hk e'
      rw [upd_ne w]
      exact ⟨h1, h2, h3.carry C (fun j b hj z => by simp [unR, show j ≠ n by lia, z]) rfl⟩
  · have w : k ≠ n := by lia
    exact R.hi k a hk (by simpa [unR, w] using e)
  · by_cases w : k = n
    · subst w; exact upd_self ..
    · rw [upd_ne w]; exact R.dom k (by simpa [unR, w] using e)
  · have w1 : k ≠ n := fun w => by simp [unR, w] at e1
    have w2 : j ≠ n := fun w => by simp [unR, w] at e2
    exact R.inj k j a (by simpa [unR, w1] using e1) (by simpa [unR, w2] using e2)
theorem S_freeze (n : Nat) {xs : List PyData} {ss : List Stmt} {Q : Fl → Locals → Store → Prop} (hx : σ n = .list xs) (h : TS cx fx E d ss (thaw n xs m) (upd σ n .free) Q) (hn : 32 ≤ n := by decide) (hl : n < 1000 := by decide) (hcv : ∀ c ∈ fx.cv, c.2.2 ≠ some (.loc n) := by intro c h; cases h) : TS cx fx E d ss m σ Q := fun A ρ s ok R => by
  obtain ⟨a, e, vs, j, g, D⟩ := named R hx (hl := hl)
  obtain ⟨R', C⟩ := R.toRelC.freeze hn hl
  have nr : ∀ k, unR ρ n k ≠ some a := fun k z => by
    by_cases w : k = n
    · simp [unR, w] at z
    · exact w (R.inj k n a (by simpa [unR, w] using z) e)
  have D' := D.carry C
  have fz : DRep (unR ρ n) s.heap (.list xs) (.ref a) := by
    obtain ⟨as, r, f⟩ := D'
    refine ⟨a :: as, .list g rfl rfl (by simpa using r), fun b hb => ?_⟩
    rcases List.mem_cons.mp hb with rfl | hb
    · exact ⟨⟨_, _, _, g, rfl⟩, nr⟩
    · exact f b hb
  have R'' : Rel cx fx (unR ρ n) (thaw n xs m) (upd σ n .free) s := by
    obtain ⟨mc, hns, M⟩ := R.fr
    refine { R' with fr := ⟨mc, hns, fun x l el => ?_⟩, hist := ⟨R.hist.carry.trans C, R.hist.frames⟩, Lout := R.Lout, cv := fun c hc => ?_ }
    rotate_left
    · obtain ⟨h1, ⟨u, hu, r⟩, h2⟩ := R.cv c hc
      refine ⟨h1, ⟨u, hu, LRepO.carry C (fun k b q eb => ?_) r⟩, fun k z => ?_⟩
      · have : k ≠ n := fun w => hcv c hc (w ▸ q)
        simp [unR, this, eb]
      · by_cases w : k = n
        · simp [unR, w] at z
        · exact h2 k (by simpa [unR, w] using z)
    rw [thaw, lk_map (thawV n xs)] at el
    obtain ⟨l₀, e₀, q⟩ := Option.map_eq_some_iff.mp el
    obtain ⟨v, ev, r⟩ := M x l₀ e₀
    refine ⟨v, ev, ?_⟩
    subst q
    cases l₀ with
    | dat dd => exact LRep.carry C (fun _ _ z _ => nomatch z) r
    | con c => exact r
    | loc k =>
      obtain ⟨b, eb, rfl⟩ := r
      show LRep _ _ (bif Nat.beq k n then _ else _) _
      cases w : Nat.beq k n with
      | true =>
        have := Nat.eq_of_beq_eq_true w
        subst this
        rw [e] at eb; cases eb
        exact fz
      | false =>
        have : k ≠ n := Nat.ne_of_beq_eq_false w
        exact ⟨b, by simp [unR, this, eb], rfl⟩
  refine wpAny_mono (h A _ s ok R'') (fun f s' ⟨fl, m', σ', ρ', X, R₁, r, q⟩ => ⟨fl, m', σ', ρ', ⟨fun k b hk eb => X.le k b hk (by simp [unR, show k ≠ n by rcases hk with hk | hk <;> lia, eb]), fun k b eb => ?_, fun b o eb k hs => X.keep b o eb (fun j hj z => ?_) hs, X.there⟩, R₁, r, q⟩) fun _ _ x => x
  · rcases X.from_ k b eb with z | z
    · by_cases w : k = n
      · simp [unR, w] at z
      · exact .inl (by simpa [unR, w] using z)
    · exact .inr z
  · by_cases w : j = n
    · simp [unR, w] at z
    · exact k j hj (by simpa [unR, w] using z)
end
/-! an exception of the text's own class, with its dict, on its way out -/
noncomputable def UpTo (l : List Env) (h h' : Heap) : Prop := ∀ b o, h.get? b = some o → (∀ vs, o.data ≠ .fields vs) → (∃ sl, h'.get? b = some { o with slots := sl }) ∧ (b ∉ l.filterMap (·.frame) → h'.get? b = some o)
theorem UpTo.trans {l : List Env} {h₁ h₂ h₃ : Heap} (x : UpTo l h₁ h₂) (y : UpTo l h₂ h₃) : UpTo l h₁ h₃ := fun b o e hn => by
  obtain ⟨⟨sl, e₁⟩, k₁⟩ := x b o e hn
  obtain ⟨⟨sl₂, e₂⟩, _⟩ := y b _ e₁ hn
  exact ⟨⟨sl₂, e₂⟩, fun hb => (y b o (k₁ hb) hn).2 hb⟩
noncomputable def TracedD (base h : Heap) (e : Addr) (cls : Value) (dd : Addr) (fl : Value) : Prop :=
  ∃ oe vs T oT ts, h.get? e = some oe ∧ (oe.cls = cls ∧ oe.dict = some dd) ∧ oe.data = .fields vs ∧ vs[1]? = some (.ref T) ∧ base.get? T = none ∧ T ≠ e ∧ h.get? T = some oT ∧ oT.data = .fields ts ∧ ts[3]? = some fl
theorem dict_mapFields (o : Obj) (f) : (o.mapFields f).dict = o.dict := by
  obtain ⟨c, d, dt, sl⟩ := o
  cases dt <;> rfl
noncomputable def FlyD (base : Heap) (l : List Env) (e : Addr) (cls : Value) (dd : Addr) (fl : Value) (h : Heap) : Prop :=
  base.StaysIn h ∧ base.get? e = none ∧ h.FunFrames base l ∧ TracedD base h e cls dd fl
section
variable {M : Model} {A : Around} {E : Value → Shared → Prop} {s : Shared} {base : Heap} {env : Env} {outer : List Env} {L e dd : Addr} {cls : Value}
theorem entryD {oe : Obj} {vs : Array Value} {head : Value} {hadNext : Bool} {Q : Unit → Shared → Prop}
    (hfr : A.frames = some (env :: outer)) (hl : s.heap.FunFrames base (env :: outer)) (hf : env.frame = some L)
    (he : s.heap.get? e = some oe) (hkb : base.StaysIn s.heap) (hen : base.get? e = none) (hd : oe.data = .fields vs) (hsz : 1 < vs.size) (h0 : oe.dict = some dd)
    (h : ∀ h', FlyD base (env :: outer) e oe.cls dd (rawInt L) h' → UpTo (env :: outer) s.heap h' → Q () { s with heap := h' }) :
    wpAny M A (do let a ← frameOf env; let pl ← entryPlaceOf L hadNext; let b ← EntryCells.newEntry head a .none (rawInt L) .none pl; setField (.ref e) 1 b) Q E s := by
  have hene : e ∉ (env :: outer).filterMap (·.frame) := fun hm => by
    obtain ⟨_, o, ho, hnf⟩ := hl.mem hm
    rw [he] at ho; injection ho with ho; subst ho; exact hnf vs hd
  refine wpAny_bind (wpAny_frameOf_fun hfr hl hf fun h₁ hs₁ => ?_)
  refine wpAny_bind (wpAny_entryPlaceOf fun pl hpl => ?_)
  unfold EntryCells.newEntry newFields
  refine wpAny_bind (wpAny_newObj_type ?_ (hpl.sizeOk5 _ _ _ _ _))
  have he₁ : h₁.get? e = some oe := (hs₁.2.1 e hene).trans he
  have kb₁ : base.StaysIn h₁ := fun b o hbo => (hs₁.2.1 b fun hm => by rw [(hl.mem hm).1] at hbo; cases hbo).trans (hkb b o hbo)
  have he₂ := Heap.get?_push_of_some (h := h₁) { cls := .type "traceback", dict := none, data := .fields ([head, .ref L, .none, rawInt L, .none] ++ (if pl.isEmpty then List.replicate 6 Value.none else pl)).toArray } he₁
  refine wpAny_setField he₂ hd hsz ?_
  have hTe : h₁.objs.size ≠ e := Nat.ne_of_gt (Heap.lt_size he₁)
  have hd₃ := Obj.data_mapFields hd (·.setIfInBounds 1 (Value.ref h₁.objs.size))
  have he₃ := Heap.get?_update_self (Obj.mapFields (·.setIfInBounds 1 (Value.ref h₁.objs.size))) he₂ (Obj.isFreed_of_fields hd₃)
  have hT₃ := (Heap.get?_update_other (h₁.push { cls := .type "traceback", dict := none, data := .fields ([head, .ref L, .none, rawInt L, .none] ++ (if pl.isEmpty then List.replicate 6 Value.none else pl)).toArray })
    (Obj.mapFields (·.setIfInBounds 1 (Value.ref h₁.objs.size))) (Ne.symm hTe)).trans (Heap.get?_push_size h₁ rfl)
  have keep : ∀ b o, b ≠ e → h₁.get? b = some o →
      ((h₁.push { cls := .type "traceback", dict := none, data := .fields ([head, .ref L, .none, rawInt L, .none] ++ (if pl.isEmpty then List.replicate 6 Value.none else pl)).toArray }).update e (Obj.mapFields (·.setIfInBounds 1 (Value.ref h₁.objs.size)))).get? b = some o :=
    fun b o hbe hb => by
      rw [Heap.get?_update_other _ _ (Ne.symm hbe)]
      exact Heap.get?_push_of_some _ hb
  have noRecord : ∀ b o, s.heap.get? b = some o → (∀ vs, o.data ≠ .fields vs) → b ≠ e := fun b o hb hnf q => by
    rw [q, he] at hb; injection hb with hb; subst hb; exact hnf vs hd
  refine h _ ⟨fun b o hbo => keep b o (fun q => by rw [q, hen] at hbo; cases hbo) (kb₁ b o hbo), hen, hl.of_keeps fun b o hb hnf => ?_, ?_⟩ fun b o hb hnf => ⟨?_, fun hm => ?_⟩
  · obtain ⟨sl, hs⟩ := hs₁.2.2 b o hb
    exact ⟨_, keep b _ (noRecord b o hb hnf) hs, rfl⟩
  · exact ⟨_, _, h₁.objs.size, _, _, he₃, ⟨Obj.cls_mapFields _ _, (dict_mapFields _ _).trans h0⟩, hd₃, by simp [hsz], kb₁.fresh, hTe, hT₃, rfl, by first | (simp; done) | (rcases hpl with rfl | ⟨_, _, _, _, _, _, _, rfl⟩ <;> simp)⟩
  · obtain ⟨sl, hs⟩ := hs₁.2.2 b o hb
    exact ⟨sl, keep b _ (noRecord b o hb hnf) hs⟩
  · exact keep b o (noRecord b o hb hnf) ((hs₁.2.1 b hm).trans hb)
theorem flightD {l : List Env} {fl fl' : Value} {fr : Option Addr} {Q : Unit → Shared → Prop} (F : FlyD base l e cls dd fl s.heap) (hfl : fr.elim Value.none (fun f => rawInt f) = fl')
    (h : ∀ h', FlyD base l e cls dd fl' h' → UpTo l s.heap h' → Q () { s with heap := h' }) :
    wpAny M A (setFlight (.ref e) fr) Q E s := by
  obtain ⟨hkb, hen, hl, oe, vs, T, oT, ts, he, hcls, hd, h1, hnT, hTe, hT, hdT, h3⟩ := F
  have hsz3 : 3 < ts.size := (Array.getElem?_eq_some_iff.mp h3).1
  have other : ∀ b, b ≠ T → (s.heap.update T (Obj.mapFields (·.setIfInBounds 3 (fr.elim Value.none fun f => rawInt f)))).get? b = s.heap.get? b :=
    fun b hb => Heap.get?_update_other _ _ (Ne.symm hb)
  have noRecord : ∀ b o, s.heap.get? b = some o → (∀ vs, o.data ≠ .fields vs) → b ≠ T := fun b o hb hnf q => by
    rw [q, hT] at hb; injection hb with hb; subst hb; exact hnf ts hdT
  unfold setFlight
  refine wpAny_bind (wpAny_field he hd h1 ?_)
  rw [if_pos (show (Value.ref T != Value.none) = true from by simp)]
  refine wpAny_setField hT hdT hsz3 (h _ ⟨fun b o hbo => (other b fun q => by rw [q, hnT] at hbo; cases hbo).trans (hkb b o hbo), hen,
    hl.of_keeps fun b o hb hnf => ⟨o, (other b (noRecord b o hb hnf)).trans hb, rfl⟩, ?_⟩ fun b o hb hnf => ⟨⟨o.slots, (other b (noRecord b o hb hnf)).trans hb⟩, fun _ => (other b (noRecord b o hb hnf)).trans hb⟩)
  exact ⟨oe, vs, T, _, _, (other e (Ne.symm hTe)).trans he, hcls, hd, h1, hnT, hTe, Heap.get?_update_self _ hT (Obj.isFreed_of_fields (Obj.data_mapFields hdT _)), Obj.data_mapFields hdT _, by simp [hsz3, hfl]⟩
/-- the frame is noted on an exception that is new -/
theorem noteD_new {oe : Obj} {vs : Array Value} {Q : Unit → Shared → Prop}
    (hfr : A.frames = some (env :: outer)) (hl : s.heap.FunFrames base (env :: outer)) (hf : env.frame = some L)
    (he : s.heap.get? e = some oe) (hkb : base.StaysIn s.heap) (hen : base.get? e = none) (hd : oe.data = .fields vs) (h1 : vs[1]? = some .none) (h0 : oe.dict = some dd) (hc : oe.cls = cls)
    (h : ∀ h', FlyD base (env :: outer) e cls dd (rawInt L) h' → UpTo (env :: outer) s.heap h' → Q () { s with heap := h' }) : wpAny M A (noteFrame (.ref e) env) Q E s := by
  subst hc
  unfold noteFrame
  simp only [hf]
  refine wpAny_bind (wpAny_field he hd h1 ?_)
  rw [if_neg (by decide)]
  exact entryD hfr hl hf he hkb hen hd (Array.getElem?_eq_some_iff.mp h1).1 h0 h
theorem noteD {Q : Unit → Shared → Prop}
    (hfr : A.frames = some (env :: outer)) (hf : env.frame = some L) (F : FlyD base (env :: outer) e cls dd .none s.heap)
    (h : ∀ h', FlyD base (env :: outer) e cls dd (rawInt L) h' → UpTo (env :: outer) s.heap h' → Q () { s with heap := h' }) : wpAny M A (noteFrame (.ref e) env) Q E s := by
  obtain ⟨hkb, hen, hl, oe, vs, T, oT, ts, he, ⟨hcls, h0⟩, hd, h1, hnT, hTe, hT, hdT, h3⟩ := F
  subst hcls
  unfold noteFrame
  simp only [hf]
  refine wpAny_bind (wpAny_field he hd h1 ?_)
  rw [if_pos (show (Value.ref T != Value.none) = true from by simp)]
  refine wpAny_bind (wpAny_field hT hdT h3 ?_)
  rw [if_neg (show ¬ ((Value.none == rawInt L) = true) from by simp [rawInt])]
  refine wpAny_bind (wpAny_setField hT hdT (Array.getElem?_eq_some_iff.mp h3).1 ?_)
  have other : ∀ b, b ≠ T → (s.heap.update T (Obj.mapFields (·.setIfInBounds 3 Value.none))).get? b = s.heap.get? b := fun b hb => Heap.get?_update_other _ _ (Ne.symm hb)
  have noRecord : ∀ b o, s.heap.get? b = some o → (∀ vs, o.data ≠ .fields vs) → b ≠ T := fun b o hb hnf q => by
    rw [q, hT] at hb; injection hb with hb; subst hb; exact hnf ts hdT
  refine entryD hfr (hl.of_keeps fun b o hb hnf => ⟨o, (other b (noRecord b o hb hnf)).trans hb, rfl⟩) hf ((other e (Ne.symm hTe)).trans he)
    (fun b o hbo => (other b fun q => by rw [q, hnT] at hbo; cases hbo).trans (hkb b o hbo)) hen hd (Array.getElem?_eq_some_iff.mp h1).1 h0
    fun h' x y => h h' x fun b o hb hnf => y b o ((other b (noRecord b o hb hnf)).trans hb) hnf
end
theorem FRep.one {ρ ρ' : RM} {h h' : Heap} (C : Carry ρ h ρ' h') {x : Str} {b : PyData} : ∀ {es : List DictEntry}, FRep ρ h [(x, .dat b)] es → FRep ρ' h' [(x, .dat b)] es
  | [_], F => ⟨F.1, LRep.carry C (fun _ _ q _ => nomatch q) F.2.1, fun _ q => (nomatch q), trivial⟩
  | [], F => F.elim
  | _ :: _ :: _, F => F.2.2.2.elim
/-- what an exception leaves behind it -/
structure XOut (cx : Cx) (fs : List Env) (ρ0 : RM) (h0 : Heap) (ball : PyData) (e : Value) (s' : Shared) : Prop where
  exc : ∃ a dd es n, e = .ref a ∧ cx.base.get? dd = none ∧ FlyD cx.base fs a (.ref 51) dd .none s'.heap ∧ s'.heap.get? dd = some (dictOf es n) ∧ (∀ f ∈ fs, f.frame ≠ some dd) ∧ FRep (fun _ => none) s'.heap [("ball", .dat ball)] es
  vals : Carry ρ0 h0 (fun _ => none) s'.heap
  frames : ∀ f ∈ fs, ∀ b o, f.frame = some b → h0.get? b = some o → ∃ sl, s'.heap.get? b = some { o with slots := sl }
  gens : s'.gens = cx.gens
  os : s'.os = cx.os
theorem carryUpTo {l : List Env} {h h' : Heap} {ρ : RM} (u : UpTo l h h') : Carry ρ h (fun _ => none) h' :=
  ⟨fun a o vs k e _ d => let ⟨⟨_, e'⟩, _⟩ := u a o e (fun _ q => by rw [d] at q; cases q); ⟨_, e', rfl, rfl⟩, fun a o vs k e d _ => ⟨fun _ q => (nomatch q), let ⟨⟨_, e'⟩, _⟩ := u a o e (fun _ q => by rw [d] at q; cases q); ⟨_, e', rfl, rfl⟩⟩⟩
/-- the exceptions of a body -/
noncomputable def EX (cx : Cx) (fx : Fx) (X : PyData → Prop) : Value → Shared → Prop := fun e s' =>
  wpAny (model PW cx.w) fx.A (leaving fx.env e) (fun _ s'' => ∃ ball, X ball ∧ XOut cx fx.outer fx.ρ0 fx.h0 ball e s'') (fun _ _ => False) s'
section
variable {cx : Cx} {fx : Fx} {d : Nat} {m : Locals} {σ : Store} {ρ : RM} {s : Shared} {X : PyData → Prop}
theorem frame_out {fs : List Env} (R : RelC cx fs ρ σ s) {f : Env} {a : Addr} {o : Obj} (hm : f ∈ fs) (hf : f.frame = some a) (ho : s.heap.get? a = some o) : ∀ vs, o.data ≠ .fields vs := by
  obtain ⟨_, o', h1, h2⟩ := R.ff.mem (List.mem_filterMap.mpr ⟨f, hm, hf⟩)
  rw [ho] at h1; cases h1; exact h2
theorem FlyD.outer {base h : Heap} {env : Env} {l : List Env} {e dd : Addr} {cls fl : Value} (F : FlyD base (env :: l) e cls dd fl h) : FlyD base l e cls dd fl h := ⟨F.1, F.2.1, F.2.2.1.2.2, F.2.2.2⟩
/-- out of the frame in which it was raised -/
theorem EX.raise (R : Rel cx fx ρ m σ s) (hA : fx.A.frames = some fx.fs) {n k : Nat} {b : PyData} {a : Addr} (hn : σ n = .exc k true) (hk : σ k = .ns [("ball", .dat b)]) (hl : n < 1000) (ha : ρ n = some a) (hX : X b) : EX cx fx X (.ref a) s := by
  obtain ⟨a', ea, ⟨dd, vs, sl, e1, e2, e3, e4⟩, nb⟩ := R.toRelC.at_ hn (fun h => nomatch h) hl
  rw [ha] at ea; cases ea
  obtain ⟨dd', ed, ⟨es, j, g, F⟩, nd⟩ := R.toRelC.at_ hk (fun h => nomatch h) (Nat.lt_trans e2 (by decide))
  rw [e1] at ed; cases ed
  refine wpAny_bind (noteD_new (base := cx.base) (cls := .ref 51) (dd := dd) hA R.ff rfl e3 R.base nb rfl (e4 rfl) rfl rfl fun h₁ F₁ u₁ => flightD F₁ rfl fun h₂ F₂ u₂ => ?_)
  have u := u₁.trans u₂
  have nf : ∀ f ∈ fx.fs, f.frame ≠ some dd := fun f hf => (R.st k dd (Nat.lt_trans e2 (by decide)) e1).2.1 f hf
  have gd : h₂.get? dd = some (dictOf es j) := (u dd _ g (fun _ q => nomatch q)).2 fun hm => by
    obtain ⟨f, hf, hq⟩ := List.mem_filterMap.mp hm
    exact nf f hf hq
  exact ⟨b, hX, ⟨⟨a, dd, es, j, rfl, nd, F₂.outer, gd, fun f hf => nf f (.tail _ hf), F.one (carryUpTo u)⟩, R.hist.carry.trans (carryUpTo u), fun f hf b o hb h0 => (u b o (R.hist.frames f hf b o hb h0) (frame_out R.toRelC (.tail _ hf) hb (R.hist.frames f hf b o hb h0))).1, R.gens, R.os⟩⟩
/-- out of a frame that it came into -/
theorem EX.pass {ball : PyData} {e : Value} {s' : Shared} (R : Rel cx fx ρ m σ s) (hA : fx.A.frames = some fx.fs) (hX : X ball) (x : XOut cx fx.fs ρ s.heap ball e s') : EX cx fx X e s' := by
  obtain ⟨⟨a, dd, es, j, rfl, nd, F₀, gd, nf, B⟩, vals, frames, gens, os⟩ := x
  refine wpAny_bind (noteD hA rfl F₀ fun h₁ F₁ u₁ => flightD F₁ rfl fun h₂ F₂ u₂ => ?_)
  have u := u₁.trans u₂
  have gd' : h₂.get? dd = some (dictOf es j) := (u dd _ gd (fun _ q => nomatch q)).2 fun hm => by
    obtain ⟨f, hf, hq⟩ := List.mem_filterMap.mp hm
    exact nf f hf hq
  refine ⟨ball, hX, ⟨⟨a, dd, es, j, rfl, nd, F₂.outer, gd', fun f hf => nf f (.tail _ hf), B.one (carryUpTo u)⟩, (R.hist.carry.trans vals).trans (carryUpTo u), fun f hf b o hb h0 => ?_, gens, os⟩⟩
  have h1 := R.hist.frames f hf b o hb h0
  obtain ⟨sl, h2⟩ := frames f (.tail _ hf) b o hb h1
  obtain ⟨⟨sl', h3⟩, _⟩ := u b _ h2 (show ∀ vs, o.data ≠ .fields vs from frame_out R.toRelC (.tail _ hf) hb h1)
  exact ⟨sl', h3⟩
end
noncomputable def EPass (cx : Cx) (fx : Fx) (E : Value → Shared → Prop) (X : PyData → Prop) : Prop := ∀ ρ m σ s ball e s', fx.A.frames = some fx.fs → Rel cx fx ρ m σ s → X ball → XOut cx fx.fs ρ s.heap ball e s' → E e s'
theorem EPass.ex {cx : Cx} {fx : Fx} {X Y : PyData → Prop} (h : ∀ b, Y b → X b) : EPass cx fx (EX cx fx X) Y := fun _ _ _ _ _ _ _ hA R y x => EX.pass R hA (h _ y) x
theorem EPass.never {cx : Cx} {fx : Fx} {E : Value → Shared → Prop} : EPass cx fx E (fun _ => False) := fun _ _ _ _ _ _ _ _ _ y _ => y.elim
noncomputable def Own (cx : Cx) (fx : Fx) (E : Value → Shared → Prop) : Prop := ∀ A, SameStack A fx.A → PassesOwn (model PW cx.w) A fx.env E
theorem Own.ex {cx : Cx} {fx : Fx} {X : PyData → Prop} : Own cx fx (EX cx fx X) := fun _ h => PassesOwnAt.leavingOf h
theorem Own.never {cx : Cx} {fx : Fx} : Own cx fx (fun _ _ => False) := fun _ _ _ _ h => h.elim
noncomputable def low (σ : Store) : Store := fun n => bif Nat.blt n 32 then σ n else .free
noncomputable def mix (σ' σ : Store) : Store := fun n => bif Nat.blt n 32 then σ' n else σ n
theorem low_lt {σ : Store} {n : Nat} (h : n < 32) : low σ n = σ n := by
  have : Nat.blt n 32 = true := by simpa [Nat.blt_eq] using h
  simp [low, this]
theorem low_ge {σ : Store} {n : Nat} (h : 32 ≤ n) : low σ n = .free := by
  have : Nat.blt n 32 = false := by
    cases q : Nat.blt n 32 with
    | false => rfl
    | true => exact absurd (Nat.blt_eq.mp q) (Nat.not_lt.mpr h)
  simp [low, this]
theorem mix_lt {σ' σ : Store} {n : Nat} (h : n < 32) : mix σ' σ n = σ' n := by
  have : Nat.blt n 32 = true := by simpa [Nat.blt_eq] using h
  simp [mix, this]
theorem mix_ge {σ' σ : Store} {n : Nat} (h : 32 ≤ n) : mix σ' σ n = σ n := by
  have : Nat.blt n 32 = false := by
    cases q : Nat.blt n 32 with
    | false => rfl
    | true => exact absurd (Nat.blt_eq.mp q) (Nat.not_lt.mpr h)
  simp [mix, this]
noncomputable def LowL (l : LV) : Prop := ∀ n, l = .loc n → n < 32
structure COk (A : Around) (d : Nat) (fs : List Env) : Prop where
  handled : A.handled = none
  frames : A.frames = some fs
  depth : A.depth + d + 1 < 990
  units : A.units + 10 * (d + 1) + 100 < 9900
/-- what a call does -/
noncomputable def TC (cx : Cx) (d : Nat) (f : Value) (ls : List LV) (σ : Store) (Q : LV → Store → Prop) (X : PyData → Prop) : Prop :=
  ∀ A fs ρ s vs, COk A d fs → RelC cx fs ρ (low σ) s → All2 (LRep ρ s.heap) ls vs →
    codeAny (model PW cx.w) A (.call f ⟨vs, []⟩) (wants (fun v s' => ∃ l σ' ρ', Ext allN noS ρ s.heap ρ' s'.heap ∧ RelC cx fs ρ' (low σ') s' ∧ LRep ρ' s'.heap l v ∧ LowL l ∧ Q l σ')
      (fun e s' => ∃ ball, X ball ∧ XOut cx fs ρ s.heap ball e s')) s
theorem wants_mono {P P' : Value → Shared → Prop} {E E' : Value → Shared → Prop} (h : ∀ v s, P v s → P' v s) (k : ∀ v s, E v s → E' v s) : ∀ r s, wants P E r s → wants P' E' r s := fun r s z => by
  rcases r with e | (v | _ | _ | _)
  · exact k _ _ z
  all_goals first | exact h _ _ z | exact z
theorem COk.mono {A : Around} {d d' : Nat} {fs : List Env} (h : d ≤ d') (k : COk A d' fs) : COk A d fs := ⟨k.handled, k.frames, by have := k.depth; lia, by have := k.units; lia⟩
theorem TC.mono {cx : Cx} {d d' : Nat} {f : Value} {ls : List LV} {σ : Store} {Q Q' : LV → Store → Prop} {X X' : PyData → Prop} (h : TC cx d f ls σ Q X) (hd : d ≤ d') (hQ : ∀ l σ', Q l σ' → Q' l σ') (hX : ∀ b, X b → X' b) : TC cx d' f ls σ Q' X' :=
  fun A fs ρ s vs ok R r => codeAny_mono (h A fs ρ s vs (ok.mono hd) R r) (wants_mono (fun _ _ ⟨l, σ', ρ', a, b, c, e, q⟩ => ⟨l, σ', ρ', a, b, c, e, hQ _ _ q⟩) fun _ _ ⟨b, x, y⟩ => ⟨b, hX _ x, y⟩)
noncomputable def sh (ρ : RM) : RM := fun n => if n < 32 then ρ n else if n < 1032 then none else ρ (n - 1000)
theorem sh_lt {ρ : RM} {n : Nat} (h : n < 32) : sh ρ n = ρ n := if_pos h
theorem sh_mid {ρ : RM} {n : Nat} (h : 32 ≤ n) (k : n < 1032) : sh ρ n = none := by unfold sh; rw [if_neg (Nat.not_lt.mpr h), if_pos k]
theorem sh_hi {ρ : RM} {n : Nat} (h : 32 ≤ n) : sh ρ (n + 1000) = ρ n := by unfold sh; rw [if_neg (by lia), if_neg (by lia), Nat.add_sub_cancel]
theorem sh_of {ρ : RM} {n : Nat} {a : Addr} (h : sh ρ n = some a) : (n < 32 ∧ ρ n = some a) ∨ ∃ k, n = k + 1000 ∧ 32 ≤ k ∧ ρ k = some a := by
  by_cases h1 : n < 32
  · rw [sh_lt h1] at h; exact .inl ⟨h1, h⟩
  · by_cases h2 : n < 1032
    · rw [sh_mid (Nat.not_lt.mp h1) h2] at h; cases h
    · refine .inr ⟨n - 1000, by lia, by lia, ?_⟩
      unfold sh at h
      rw [if_neg h1, if_neg h2] at h; exact h
theorem sh_off {ρ : RM} {a : Addr} (h : ∀ n, ρ n ≠ some a) : ∀ n, sh ρ n ≠ some a := fun n q => by
  rcases sh_of q with ⟨_, q⟩ | ⟨k, _, _, q⟩ <;> exact h _ q
theorem shCarry (ρ : RM) (h : Heap) : Carry ρ h (sh ρ) h := ⟨fun a o _ _ e _ _ => ⟨o, e, rfl, rfl⟩, fun a o _ _ e _ q => ⟨sh_off q, o, e, rfl, rfl⟩⟩
section
variable {cx : Cx} {fx : Fx} {E : Value → Shared → Prop} {d : Nat} {m : Locals} {σ : Store} {ρ : RM} {s : Shared}
theorem RelC.sh {fs : List Env} (R : RelC cx fs ρ σ s) : RelC cx fs (sh ρ) (low σ) s := by
  refine ⟨R.base, fun n a hn e => ?_, fun n a hn e => ?_, fun n e => ?_, fun n k a e1 e2 => ?_, R.ff, R.gens, R.os⟩
  · rcases sh_of e with ⟨h1, e'⟩ | ⟨k, h1, h2, _⟩
    · obtain ⟨x, y, z⟩ := R.st n a hn e'
      rw [low_lt h1]
      exact ⟨x, y, z.carry (shCarry _ _) (fun k b hk q => (sh_lt hk).trans q) rfl⟩
    · lia
  · rcases sh_of e with ⟨h1, e'⟩ | ⟨k, h1, h2, e'⟩
    · lia
    · exact R.thereT e'
  · by_cases h : n < 32
    · rw [low_lt h]; rw [sh_lt h] at e; exact R.dom n e
    · exact low_ge (Nat.not_lt.mp h)
  · rcases sh_of e1 with ⟨h1, e1⟩ | ⟨j, h1, h1', e1⟩ <;> rcases sh_of e2 with ⟨h2, e2⟩ | ⟨i, h2, h2', e2⟩
    · exact R.inj _ _ _ e1 e2
    · have := R.inj _ _ _ e1 e2; lia
    · have := R.inj _ _ _ e1 e2; lia
    · have := R.inj _ _ _ e1 e2; lia
theorem LRep.sh {h : Heap} {l : LV} {v : Value} (hl : LowL l) (r : LRep ρ h l v) : LRep (sh ρ) h l v := LRep.carry (shCarry _ _) (fun n a q e => (sh_lt (hl n q)).trans e) r
noncomputable def un (ρ' ρ : RM) : RM := fun n => if n < 32 then ρ' n else ρ n
theorem un_lt {ρ' ρ : RM} {n : Nat} (h : n < 32) : un ρ' ρ n = ρ' n := if_pos h
theorem un_ge {ρ' ρ : RM} {n : Nat} (h : 32 ≤ n) : un ρ' ρ n = ρ n := if_neg (Nat.not_lt.mpr h)
theorem RelC.back {fs : List Env} {ρ' : RM} {σ' : Store} {s' : Shared} (R : RelC cx fs ρ σ s) (X : Ext allN noS (Mine.sh ρ) s.heap ρ' s'.heap) (R' : RelC cx fs ρ' (low σ') s') :
    Ext allN noS ρ s.heap (un ρ' ρ) s'.heap ∧ RelC cx fs (un ρ' ρ) (mix σ' σ) s' ∧ Carry ρ' s'.heap (un ρ' ρ) s'.heap := by
  have le : ∀ k a, 32 ≤ k → ρ k = some a → ρ' (k + 1000) = some a := fun k a hk e => X.le _ _ trivial ((sh_hi hk).trans e)
  have Y : Ext allN noS ρ s.heap (un ρ' ρ) s'.heap := by
    refine ⟨fun n a _ e => ?_, fun n a e => ?_, fun a o e k _ => X.keep a o e (fun n hn q => ?_) id, X.there⟩
    · by_cases h : n < 32
      · rw [un_lt h]; exact X.le _ _ trivial ((sh_lt h).trans e)
      · rw [un_ge (Nat.not_lt.mp h)]; exact e
    · by_cases h : n < 32
      · rw [un_lt h] at e
        rcases X.from_ n a e with q | q
        · exact .inl ((sh_lt h).symm.trans q)
        · exact .inr q
      · rw [un_ge (Nat.not_lt.mp h)] at e; exact .inl e
    · rcases sh_of q with ⟨_, q⟩ | ⟨j, h1, h2, q⟩
      · exact k n hn q
      · lia
  have C : Carry ρ' s'.heap (un ρ' ρ) s'.heap := ⟨fun a o _ _ e _ _ => ⟨o, e, rfl, rfl⟩, fun a o _ _ e _ q => ⟨fun n z => by
    by_cases h : n < 32
    · rw [un_lt h] at z; exact q n z
    · rw [un_ge (Nat.not_lt.mp h)] at z; exact q _ (le n a (Nat.not_lt.mp h) z), o, e, rfl, rfl⟩⟩
  refine ⟨Y, ⟨R'.base, fun n a hn e => ?_, fun n a hn e => ?_, fun n e => ?_, fun n k a e1 e2 => ?_, R'.ff, R'.gens, R'.os⟩, C⟩
  · by_cases h : n < 32
    · rw [un_lt h] at e
      obtain ⟨x, y, z⟩ := R'.st n a hn e
      rw [low_lt h] at z
      rw [mix_lt h]
      exact ⟨x, y, z.carry C (fun k b hk q => (un_lt hk).trans q) rfl⟩
    · rw [un_ge (Nat.not_lt.mp h)] at e
      obtain ⟨x, y, z⟩ := R.st n a hn e
      obtain ⟨ob, hob, _⟩ := z.cls
      rw [mix_ge (Nat.not_lt.mp h)]
      refine ⟨x, y, z.carry (Y.carry0 R) (fun k b hk q => Y.le _ _ trivial q) ?_⟩
      rw [hob]
      refine X.keep a ob hob (fun k hk q => ?_) id
      rcases sh_of q with ⟨h1, q⟩ | ⟨j, h1, h2, q⟩
      · have := R.inj _ _ _ q e; lia
      · lia
  · rw [un_ge (by lia)] at e
    exact R'.thereT (le n a (by lia) e)
  · by_cases h : n < 32
    · rw [un_lt h] at e
      have z := R'.dom n e
      rw [low_lt h] at z
      rw [mix_lt h]; exact z
    · rw [un_ge (Nat.not_lt.mp h)] at e; rw [mix_ge (Nat.not_lt.mp h)]; exact R.dom n e
  · by_cases h : n < 32 <;> by_cases h' : k < 32
    · rw [un_lt h] at e1; rw [un_lt h'] at e2; exact R'.inj _ _ _ e1 e2
    · rw [un_lt h] at e1; rw [un_ge (Nat.not_lt.mp h')] at e2
      have := R'.inj _ _ _ e1 (le _ _ (Nat.not_lt.mp h') e2); lia
    · rw [un_ge (Nat.not_lt.mp h)] at e1; rw [un_lt h'] at e2
      have := R'.inj _ _ _ (le _ _ (Nat.not_lt.mp h) e1) e2; lia
    · rw [un_ge (Nat.not_lt.mp h)] at e1; rw [un_ge (Nat.not_lt.mp h')] at e2; exact R.inj _ _ _ e1 e2
theorem XOut.sh {fs : List Env} {h : Heap} {b : PyData} {e : Value} {s' : Shared} (x : XOut cx fs (Mine.sh ρ) h b e s') : XOut cx fs ρ h b e s' :=
  ⟨x.exc, ⟨x.vals.tup, fun a o vs k e d q => x.vals.seq a o vs k e d (sh_off q)⟩, x.frames, x.gens, x.os⟩
theorem AOk.cok {A : Around} (ok : AOk A (d + 1) fx) : COk A d fx.fs := ⟨ok.handled.resolve_left (Nat.succ_ne_zero _), ok.frames, by have := ok.depth; lia, by have := ok.units; lia⟩
/-- a call by its contract -/
theorem callTC {f : Value} {ls : List LV} {Q Q' : LV → Store → Prop} {X : PyData → Prop} {A : Around} {vs : List Value} (h : TC cx d f ls σ Q' X) (hl : ∀ l ∈ ls, LowL l) (hE : EPass cx fx E X) (hQ : ∀ l σ', LowL l → Q' l σ' → Q l (mix σ' σ)) (ok : COk A d fx.fs) (fA : fx.A.frames = some fx.fs) (R : Rel cx fx ρ m σ s) (r : All2 (LRep ρ s.heap) ls vs) :
    codeAny (model PW cx.w) A (.call f ⟨vs, []⟩) (wants (VP cx fx ρ m s Q) E) s := by
  have r' : All2 (LRep (sh ρ) s.heap) ls vs := by
    clear h
    induction r with
    | nil => exact .nil
    | cons a _ ih => exact .cons (a.sh (hl _ (.head _))) (ih fun l hm => hl l (.tail _ hm))
  refine codeAny_mono (h A fx.fs (sh ρ) s vs ok R.toRelC.sh r') (wants_mono (fun v s' ⟨l, σ', ρ', X, R', r, ll, q⟩ => ?_) fun e s' ⟨b, hb, x⟩ => hE ρ m σ s b e s' fA R hb x.sh)
  obtain ⟨Y, R₂, C⟩ := R.toRelC.back X R'
  exact ⟨l, _, _, Y, R.next R₂ Y, LRep.carry C (fun n a q e => (un_lt (ll n q)).trans e) r, hQ l σ' ll q⟩
theorem OC_of {d₀ : Nat} {f : Value} {ls : List LV} {Q Q' : LV → Store → Prop} {X : PyData → Prop} (h : TC cx d₀ f ls σ Q' X) (hl : ∀ l ∈ ls, LowL l) (hE : EPass cx fx E X) (hQ : ∀ l σ', LowL l → Q' l σ' → Q l (mix σ' σ)) (hd : d₀ < d := by lia) : OC cx fx E d f ls m σ Q := by
  obtain ⟨k, rfl⟩ : ∃ k, d = k + 1 := ⟨d - 1, by lia⟩
  exact fun A ρ s vs ok R r => wpAny_call (callTC (h.mono (Nat.le_of_lt_succ hd) (fun _ _ q => q) fun _ x => x) hl hE hQ ok.cok ok.fA R r)
theorem OC_e1 {d₀ : Nat} {f : Value} {ls : List LV} {L : LV} {A : Store → Prop} {Q : LV → Store → Prop} {X : PyData → Prop} (h : TC cx d₀ f ls σ (fun l σ' => l = L ∧ A σ') X) (hl : ∀ l ∈ ls, LowL l) (hE : EPass cx fx E X) (hQ : ∀ σ', LowL L → A σ' → Q L (mix σ' σ)) (hd : Nat.blt d₀ d = true := by exact tT) : OC cx fx E d f ls m σ Q :=
  OC_of h hl hE (fun l σ' ll q => by obtain ⟨e, q⟩ := q; subst e; exact hQ σ' ll q) (Nat.blt_eq.mp hd)
theorem OC_e2 {d₀ : Nat} {f : Value} {ls : List LV} {L : LV} {A B : Store → Prop} {Q : LV → Store → Prop} {X : PyData → Prop} (h : TC cx d₀ f ls σ (fun l σ' => l = L ∧ A σ' ∧ B σ') X) (hl : ∀ l ∈ ls, LowL l) (hE : EPass cx fx E X) (hQ : ∀ σ', LowL L → A σ' → B σ' → Q L (mix σ' σ)) (hd : Nat.blt d₀ d = true := by exact tT) : OC cx fx E d f ls m σ Q :=
  OC_e1 h hl hE (fun σ' ll q => hQ σ' ll q.1 q.2) hd
theorem OC_x1 {α : Type} {g : α → LV} {d₀ : Nat} {f : Value} {ls : List LV} {A : Store → Prop} {Q : LV → Store → Prop} {X : PyData → Prop} (h : TC cx d₀ f ls σ (fun l σ' => (∃ x, l = g x) ∧ A σ') X) (hl : ∀ l ∈ ls, LowL l) (hE : EPass cx fx E X) (hQ : ∀ x σ', LowL (g x) → A σ' → Q (g x) (mix σ' σ)) (hd : Nat.blt d₀ d = true := by exact tT) : OC cx fx E d f ls m σ Q :=
  OC_of h hl hE (fun l σ' ll q => by obtain ⟨⟨x, e⟩, q⟩ := q; subst e; exact hQ x σ' ll q) (Nat.blt_eq.mp hd)
theorem OC_x2 {α β : Type} {g : α → LV} {d₀ : Nat} {f : Value} {ls : List LV} {A : β → Store → Prop} {B : Store → Prop} {Q : LV → Store → Prop} {X : PyData → Prop} (h : TC cx d₀ f ls σ (fun l σ' => (∃ x, l = g x) ∧ (∃ j, A j σ') ∧ B σ') X) (hl : ∀ l ∈ ls, LowL l) (hE : EPass cx fx E X) (hQ : ∀ x σ', LowL (g x) → ∀ j, A j σ' → B σ' → Q (g x) (mix σ' σ)) (hd : Nat.blt d₀ d = true := by exact tT) : OC cx fx E d f ls m σ Q :=
  OC_x1 h hl hE (fun x σ' ll q => by obtain ⟨⟨j, a⟩, b⟩ := q; exact hQ x σ' ll j a b) hd
theorem OC_x3 {α : Type} {g : α → LV} {d₀ : Nat} {f : Value} {ls : List LV} {A B : α → Prop} {C D : Store → Prop} {Q : LV → Store → Prop} {X : PyData → Prop} (h : TC cx d₀ f ls σ (fun l σ' => (∃ x, l = g x ∧ A x ∧ B x) ∧ C σ' ∧ D σ') X) (hl : ∀ l ∈ ls, LowL l) (hE : EPass cx fx E X) (hQ : ∀ x σ', LowL (g x) → A x → B x → C σ' → D σ' → Q (g x) (mix σ' σ)) (hd : Nat.blt d₀ d = true := by exact tT) : OC cx fx E d f ls m σ Q :=
  OC_of h hl hE (fun l σ' ll q => by obtain ⟨⟨x, e, a, b⟩, c, k⟩ := q; subst e; exact hQ x σ' ll a b c k) (Nat.blt_eq.mp hd)
end
/-- how a body ends -/
noncomputable def Ends (Q : LV → Store → Prop) : Fl → Locals → Store → Prop
  | .ret l, _, σ' => LowL l ∧ Q l σ'
  | .next, _, σ' => Q (.dat .none) σ'
  | _, _, _ => False
theorem lk_zip : ∀ {names : List Str} {vs : List Value} {x : Str}, names.Nodup → lk (names.zip vs) x = (names.zip vs).reverse.lookup x := by
  have key : ∀ {l : List (Str × Value)} {x : Str}, (l.map (·.1)).Nodup → lk l x = l.reverse.lookup x := by
    intro l x
    induction l with
    | nil => intro _; rfl
    | cons p r ih =>
      intro hn
      rw [List.map_cons, List.nodup_cons] at hn
      rw [lk_cons, List.reverse_cons, List.lookup_append, ← ih hn.2]
      by_cases h : p.1 = x
      · rw [if_pos h]
        have : lk r x = none := by
          have hx : x ∉ r.map (·.1) := h ▸ hn.1
          clear ih hn h
          induction r with
          | nil => rfl
          | cons q r ih =>
            rw [lk_cons, if_neg (fun e => hx (by rw [← e]; exact .head _))]
            exact ih fun hm => hx (.tail _ hm)
        rw [this, ← h, List.lookup_cons, beq_self_eq_true]; rfl
      · rw [if_neg h]
        have : List.lookup x [p] = none := by
          rw [List.lookup_cons, beq_eq_false_iff_ne.mpr (Ne.symm h)]; rfl
        rw [this]
        cases lk r x <;> rfl
  intro names vs x hn
  refine key ?_
  have : ∀ {names : List Str} {vs : List Value}, names.Nodup → ((names.zip vs).map (·.1)).Nodup := by
    intro names
    induction names with
    | nil => intro vs _; exact List.nodup_nil
    | cons a r ih =>
      intro vs hn
      cases vs with
      | nil => exact List.nodup_nil
      | cons v vs =>
        rw [List.nodup_cons] at hn
        rw [List.zip_cons_cons, List.map_cons, List.nodup_cons]
        refine ⟨fun hm => hn.1 ?_, ih hn.2⟩
        obtain ⟨⟨x, y⟩, hx, e⟩ := List.mem_map.mp hm
        cases e
        exact (List.of_mem_zip hx).1
  exact this hn
theorem All2.length {α β : Type} {P : α → β → Prop} {a : List α} {b : List β} (h : All2 P a b) : a.length = b.length := by
  induction h with
  | nil => rfl
  | cons _ _ ih => rw [List.length_cons, List.length_cons, ih]
theorem zipRep {ρ : RM} {h : Heap} : ∀ {names : List Str} {ls : List LV} {vs : List Value}, All2 (LRep ρ h) ls vs → ∀ x l, lk (names.zip ls) x = some l → ∃ v, lk (names.zip vs) x = some v ∧ LRep ρ h l v := by
  intro names
  induction names with
  | nil => intro ls vs r x l e; cases e
  | cons n names ih =>
    intro ls vs r x l e
    cases r with
    | nil => cases e
    | cons a r =>
      rw [List.zip_cons_cons, lk_cons] at e ⊢
      by_cases hx : n = x
      · simp only [hx, if_true] at e ⊢
        cases e; exact ⟨_, rfl, a⟩
      · simp only [hx, if_false] at e ⊢
        exact ih r x l e
theorem TC_fn {cx : Cx} {d : Nat} {ls : List LV} {σ : Store} {Q : LV → Store → Prop} {X : PyData → Prop} {name qual : Str} {params : Arguments} {body : List Stmt} {scope : Scope} {dV kV doc pm cdv ct oc : Value} {an od : Option Addr} {osl : Array (Option Value)} {f : Addr} (ok : CxOk cx)
    (ho : (KF cx.w.params).lookup f = some ⟨oc, od, .func (fnX name qual params body scope [] dV kV doc pm an cdv ct), osl⟩) (hcd : codeIn (KF cx.w.params) cdv qual = true) (names : List Str)
    (hbind : ∀ s vs, cx.base.StaysIn s.heap → vs.length = ls.length → BindsTo s (fnX name qual params body scope [] dV kV doc pm an cdv ct) ⟨vs, []⟩ (names.zip vs)) (hloc : ∀ y ∈ names, scope.names.lookup y = some .local) (hnd : names.Nodup)
    (h : ∀ L outer ρ0 h0 A, TS cx ⟨qual, scope, L, f, cdv, outer, ρ0, h0, A, [], []⟩ (EX cx ⟨qual, scope, L, f, cdv, outer, ρ0, h0, A, [], []⟩ X) d body (names.zip ls) (low σ) (Ends Q))
    (hcell : ∀ x ∈ scope.names, x.2 ≠ .cell) (hco : scope.isCoroutine = false := by rfl) (hgen : scope.isGenerator = false := by rfl) (hk : scope.kind = .function := by rfl) : TC cx d (.ref f) ls σ Q X := fun A fs ρ s vs cok R r => by
  refine codeAny_call_def (fd := fnX name qual params body scope [] dV kV doc pm an cdv ct) (body := body) (binds := names.zip vs) (Nat.lt_of_lt_of_le (by have := cok.depth; lia : A.depth < 990) (by decide)) ((ok.K.keeps R.base) _ _ ho) rfl (ok.T.nolimit.keeps R.base)
    (codeRec_of (ok.K.keeps R.base) hcd) rfl (hbind s vs R.base r.length.symm) hcell (fun y hy => hloc _ (List.of_mem_zip hy).1) (fun h₁ hns hk₁ => ?_) hco hgen hk
  have lt : ∀ k a, ρ k = some a → a < s.heap.objs.size := fun k a e => by
    obtain ⟨ob, q⟩ := R.there e
    exact Heap.lt_size q
  have C : Carry ρ s.heap ρ h₁ := ⟨fun a o _ _ e _ _ => ⟨o, hk₁ _ _ e, rfl, rfl⟩, fun a o _ _ e _ q => ⟨q, o, hk₁ _ _ e, rfl, rfl⟩⟩
  have nb : cx.base.get? s.heap.objs.size = none := by
    cases q : cx.base.get? s.heap.objs.size with
    | none => rfl
    | some o' => exact absurd (Heap.lt_size (R.base _ _ q)) (Nat.lt_irrefl _)
  have nf : ∀ e ∈ fs, e.frame ≠ some s.heap.objs.size := fun e he z => by
    obtain ⟨L, ob, e1, e2⟩ := funFrames_in R.ff e he
    rw [e1] at z; cases z
    exact absurd (Heap.lt_size e2) (Nat.lt_irrefl _)
  have hns' := hns
  obtain ⟨oL, es, ep, gL, dL, _⟩ := hns'
  have hA : (A.deeper (envX qual scope s.heap.objs.size f cdv [])).frames = some (envX qual scope s.heap.objs.size f cdv [] :: fs) := Around.frames_deeper cok.frames
  have ff' : h₁.FunFrames cx.base fs := ff_on R.ff fun e _ a o' _ q dd => ⟨o', hk₁ _ _ q, dd⟩
  have R₁ : Rel cx ⟨qual, scope, s.heap.objs.size, f, cdv, fs, ρ, s.heap, A.deeper (envX qual scope s.heap.objs.size f cdv []), [], []⟩ ρ (names.zip ls) (low σ) { s with heap := h₁, toks := s.toks + (names.zip vs).length } := by
    refine ⟨⟨fun b o e => hk₁ _ _ (R.base b o e), fun n a hn e => ?_, fun n a hn e => ?_, R.dom, R.inj, ⟨(fun q => by have e : scope.kind = .module := q; rw [hk] at e; cases e), ⟨_, _, rfl, nb, gL, (fun vs q => by rw [dL] at q; cases q)⟩, ff'⟩, R.gens, R.os⟩, ⟨_, hns, fun x l e => ?_⟩, ⟨C, fun e he a o _ h0 => hk₁ _ _ h0⟩, nf, fun _ h => nomatch h⟩
    · obtain ⟨x, y, z⟩ := R.st n a hn e
      obtain ⟨ob, q, _⟩ := z.cls
      refine ⟨x, fun ev he hf => ?_, z.carry C (fun _ _ _ q => q) ((hk₁ _ _ q).trans q.symm)⟩
      rcases List.mem_cons.mp he with rfl | he
      · have : s.heap.objs.size = a := Option.some.inj hf
        exact absurd (lt n a e) (this ▸ Nat.lt_irrefl _)
      · exact y ev he hf
    · obtain ⟨o, q, r1, r2⟩ := R.hi n a hn e
      refine ⟨o, hk₁ _ _ q, r1, fun ev he hf => ?_⟩
      rcases List.mem_cons.mp he with rfl | he
      · have : s.heap.objs.size = a := Option.some.inj hf
        exact absurd (lt n a e) (this ▸ Nat.lt_irrefl _)
      · exact r2 ev he hf
    · obtain ⟨v, e1, e2⟩ := zipRep r x l e
      exact ⟨v, by rw [← lk_zip hnd]; exact e1, LRep.carry C (fun _ _ _ q => q) e2⟩
  have aok : AOk (A.deeper (envX qual scope s.heap.objs.size f cdv [])) d ⟨qual, scope, s.heap.objs.size, f, cdv, fs, ρ, s.heap, A.deeper (envX qual scope s.heap.objs.size f cdv []), [], []⟩ :=
    ⟨.inr cok.handled, hA, by have := cok.depth; show A.depth + 1 + d < 990; lia, by have := cok.units; show A.units + 3 + 10 * d + 100 < 9900; lia, .refl _, hA⟩
  refine wpAny_mono (h s.heap.objs.size fs ρ s.heap (A.deeper (envX qual scope s.heap.objs.size f cdv [])) _ ρ _ aok R₁) (fun fl s' ⟨fl', m', σ', ρ', X', R', r', q⟩ => ?_) fun e s' x => ?_
  · -- the way back
    have keepA : ∀ b o, s.heap.get? b = some o → (∀ n, n < 1000 → ρ n ≠ some b) → s'.heap.get? b = some o := fun b o e k => X'.keep b o (hk₁ _ _ e) k (fun q => by
      have : b < s.heap.objs.size := Heap.lt_size e
      have q' : b = s.heap.objs.size := q
      exact absurd this (q' ▸ Nat.lt_irrefl _))
    -- all temporaries fall
    have C' : Carry ρ' s'.heap (fun n => if 32 ≤ n ∧ n < 1000 then none else ρ' n) s'.heap := ⟨fun a o _ _ e _ _ => ⟨o, e, rfl, rfl⟩, fun a o _ _ e _ q => ⟨fun n z => by
      by_cases h : 32 ≤ n ∧ n < 1000
      · rw [if_pos h] at z; cases z
      · rw [if_neg h] at z; exact q n z, o, e, rfl, rfl⟩⟩
    have Y : Ext allN noS ρ s.heap (fun n => if 32 ≤ n ∧ n < 1000 then none else ρ' n) s'.heap := by
      refine ⟨fun n a _ e => ?_, fun n a e => ?_, fun a o e k _ => keepA a o e k, ?_⟩
      · by_cases h : 32 ≤ n ∧ n < 1000
        · have := (R.st n a h.2 e).2.2
          rw [low_ge h.1] at this; exact this.elim
        · rw [if_neg h]; exact X'.le n a (by unfold permH; lia) e
      · by_cases h : 32 ≤ n ∧ n < 1000
        · rw [if_pos h] at e; cases e
        · rw [if_neg h] at e
          rcases X'.from_ n a e with q | q
          · exact .inl q
          · refine .inr ?_
            cases z : s.heap.get? a with
            | none => rfl
            | some o => have z' : h₁.get? a = none := q; rw [hk₁ _ _ z] at z'; cases z'
      · intro a o e
        exact X'.there a o (hk₁ _ _ e)
    have R₂ : RelC cx fs (fun n => if 32 ≤ n ∧ n < 1000 then none else ρ' n) (low σ') s' := by
      refine ⟨R'.base, fun n a hn e => ?_, fun n a hn e => ?_, fun n e => ?_, fun n k a e1 e2 => ?_, R'.ff.2.2, R'.gens, R'.os⟩
      · by_cases h : 32 ≤ n ∧ n < 1000
        · rw [if_pos h] at e; cases e
        · rw [if_neg h] at e
          obtain ⟨x, y, z⟩ := R'.st n a hn e
          rw [low_lt (show n < 32 by lia)]
          exact ⟨x, fun e he => y e (.tail _ he), z.carry C' (fun k b hk q => by rw [if_neg (by lia)]; exact q) rfl⟩
      · rw [if_neg (by lia)] at e; exact (let ⟨o, q, r1, r2⟩ := R'.hi n a hn e; ⟨o, q, r1, fun e he => r2 e (.tail _ he)⟩)
      · by_cases h : n < 32
        · rw [if_neg (by lia)] at e; rw [low_lt h]; exact R'.dom n e
        · exact low_ge (Nat.not_lt.mp h)
      · by_cases h : 32 ≤ n ∧ n < 1000
        · rw [if_pos h] at e1; cases e1
        · by_cases h' : 32 ≤ k ∧ k < 1000
          · rw [if_pos h'] at e2; cases e2
          · rw [if_neg h] at e1; rw [if_neg h'] at e2; exact R'.inj _ _ _ e1 e2
    cases fl' with
    | ret l =>
      cases fl with
      | ret v => exact ⟨l, σ', _, Y, R₂, LRep.carry C' (fun n a w e => (if_neg (by have := q.1 n w; lia)).trans e) r', q.1, q.2⟩
      | _ => exact r'.elim
    | next =>
      cases fl with
      | next => exact ⟨.dat .none, σ', _, Y, R₂, ⟨[], .none, fun _ h => (nomatch h)⟩, (fun _ e => nomatch e), q⟩
      | _ => exact r'.elim
    | _ => exact q.elim
  · exact wpAny_mono x (fun _ _ z => z) fun _ _ z => z.elim
inductive RetP (P : LV → Store → Prop) (l : LV) (σ : Store) : Prop where
  | mk (ll : LowL l) (q : P l σ)
noncomputable def RetK (P : LV → Store → Prop) (K : Fl → Locals → Store → Prop) : Prop := ∀ l m σ', RetP P l σ' → K (.ret l) m σ'
noncomputable def NextK (P : LV → Store → Prop) (K : Fl → Locals → Store → Prop) : Prop := ∀ m σ', P (.dat .none) σ' → K .next m σ'
/-- what a frame has of its own -/
structure Dy where
  L : Addr
  outer : List Env
  ρ0 : RM
  h0 : Heap
  A : Around
noncomputable def fxOf (cn : Str) (cs : Scope) (a : Addr) (cd : Value) (D : Dy) : Fx := ⟨cn, cs, D.L, a, cd, D.outer, D.ρ0, D.h0, D.A, [], []⟩
theorem TC_fn2 {cx : Cx} {d : Nat} {ls : List LV} {σ : Store} {Q : LV → Store → Prop} {X : PyData → Prop} {name qual : Str} {params : Arguments} {body : List Stmt} {scope : Scope} {dV kV doc pm cdv ct oc : Value} {an od : Option Addr} {osl : Array (Option Value)} {f : Addr} (ok : CxOk cx)
    (ho : (KF cx.w.params).lookup f = some ⟨oc, od, .func (fnX name qual params body scope [] dV kV doc pm an cdv ct), osl⟩) (hcd : codeIn (KF cx.w.params) cdv qual = true) (names : List Str)
    (hbind : ∀ s vs, cx.base.StaysIn s.heap → vs.length = ls.length → BindsTo s (fnX name qual params body scope [] dV kV doc pm an cdv ct) ⟨vs, []⟩ (names.zip vs)) (hloc : ∀ y ∈ names, scope.names.lookup y = some .local) (hnd : names.Nodup)
    (h : ∀ D E K, E = EX cx (fxOf qual scope f cdv D) X → RetK Q K → NextK Q K → TS cx (fxOf qual scope f cdv D) E d body (names.zip ls) (low σ) K)
    (hcell : ∀ x ∈ scope.names, x.2 ≠ .cell) (hco : scope.isCoroutine = false := by rfl) (hgen : scope.isGenerator = false := by rfl) (hk : scope.kind = .function := by rfl) : TC cx d (.ref f) ls σ Q X :=
  TC_fn ok ho hcd names hbind hloc hnd (fun L outer ρ0 h0 A => h ⟨L, outer, ρ0, h0, A⟩ _ (Ends Q) rfl (fun _ _ _ ⟨a, b⟩ => ⟨a, b⟩) fun _ _ q => q) hcell hco hgen hk
theorem X_retK {cx : Cx} {fx : Fx} {E : Value → Shared → Prop} {d : Nat} {m : Locals} {σ : Store} {e : Expr} {p : Pos} {P : LV → Store → Prop} {Q : Fl → Locals → Store → Prop} (hK : ∀ l m σ', RetP P l σ' → Q (.ret l) m σ') (h : TE cx fx E d e m σ (RetP P)) : TX cx fx E d (.Return (some e) p) m σ Q := X_ret (h.mono fun l σ' q => hK l m σ' q)
theorem EPass.exE {cx : Cx} {fx : Fx} {E : Value → Shared → Prop} {X Y : PyData → Prop} (e : E = EX cx fx X) (h : ∀ b, Y b → X b) : EPass cx fx E Y := e ▸ .ex h
theorem bndn {P : List Value → Prop} (h : P []) : ∀ vs : List Value, vs.length = 0 → P vs
  | [], _ => h
theorem bndc {n : Nat} {P : List Value → Prop} (h : ∀ a (vs : List Value), vs.length = n → P (a :: vs)) : ∀ vs : List Value, vs.length = n + 1 → P vs
  | a :: vs, e => h a vs (Nat.succ.inj e)
theorem bnd0 {B : Shared → Prop} {P : Shared → List Value → Prop} (h : ∀ s, P s []) : ∀ s vs, B s → vs.length = 0 → P s vs := fun s vs _ e => (bndn (h s)) vs e
theorem bnd1 {B : Shared → Prop} {P : Shared → List Value → Prop} (h : ∀ s a, P s [a]) : ∀ s vs, B s → vs.length = 1 → P s vs := fun s vs _ e => (bndc (n := 0) (fun a => bndn (h s a))) vs e
theorem bnd2 {B : Shared → Prop} {P : Shared → List Value → Prop} (h : ∀ s a b, P s [a, b]) : ∀ s vs, B s → vs.length = 2 → P s vs := fun s vs _ e => (bndc (n := 1) (fun a => bndc (n := 0) (fun b => bndn (h s a b)))) vs e
theorem bnd3 {B : Shared → Prop} {P : Shared → List Value → Prop} (h : ∀ s a b c, P s [a, b, c]) : ∀ s vs, B s → vs.length = 3 → P s vs := fun s vs _ e => (bndc (n := 2) (fun a => bndc (n := 1) (fun b => bndc (n := 0) (fun c => bndn (h s a b c))))) vs e
theorem bnd4 {B : Shared → Prop} {P : Shared → List Value → Prop} (h : ∀ s a b c d, P s [a, b, c, d]) : ∀ s vs, B s → vs.length = 4 → P s vs := fun s vs _ e => (bndc (n := 3) (fun a => bndc (n := 2) (fun b => bndc (n := 1) (fun c => bndc (n := 0) (fun d => bndn (h s a b c d)))))) vs e
theorem bnd5 {B : Shared → Prop} {P : Shared → List Value → Prop} (h : ∀ s a b c d e, P s [a, b, c, d, e]) : ∀ s vs, B s → vs.length = 5 → P s vs := fun s vs _ e => (bndc (n := 4) (fun a => bndc (n := 3) (fun b => bndc (n := 2) (fun c => bndc (n := 1) (fun d => bndc (n := 0) (fun e => bndn (h s a b c d e))))))) vs e
theorem bnd6 {B : Shared → Prop} {P : Shared → List Value → Prop} (h : ∀ s a b c d e f, P s [a, b, c, d, e, f]) : ∀ s vs, B s → vs.length = 6 → P s vs := fun s vs _ e => (bndc (n := 5) (fun a => bndc (n := 4) (fun b => bndc (n := 3) (fun c => bndc (n := 2) (fun d => bndc (n := 1) (fun e => bndc (n := 0) (fun f => bndn (h s a b c d e f)))))))) vs e
section
variable {cx : Cx} {fx : Fx} {E : Value → Shared → Prop} {d : Nat} {m : Locals} {σ : Store} {ρ : RM} {s : Shared}
theorem Rel.notL (R : Rel cx fx ρ m σ s) {a : Addr} {o : Obj} (ha : s.heap.get? a = some o) (hd : ∀ es k, o.data ≠ .dict es k) : a ≠ fx.L := fun q => by
  obtain ⟨_, ⟨oL, es, ep, eL, dL, _⟩, _⟩ := R.fr
  subst q
  rw [ha] at eL; cases eL; exact hd _ _ dL
/-- a record off the store has turned -/
theorem Rel.side (R : Rel cx fx ρ m σ s) {I : Addr} {h' : Heap} {t : Nat} {oI : Obj} {vs : Array Value} (hI : s.heap.get? I = some oI) (hf : oI.data = .fields vs) (nI : ∀ n, ρ n ≠ some I) (bI : cx.base.get? I = none)
    (k : ∀ b o, b ≠ I → s.heap.get? b = some o → h'.get? b = some o) : Rel cx fx ρ m σ { s with heap := h', toks := t } := by
  have ne : ∀ b o, s.heap.get? b = some o → (∀ vs, o.data ≠ .fields vs) → b ≠ I := fun b o e n q => by
    rw [q, hI] at e; cases e; exact n _ hf
  have C : Carry ρ s.heap ρ h' := ⟨fun a o vs k' e _ d => ⟨o, k a o (ne a o e fun _ q => by rw [d] at q; cases q) e, rfl, rfl⟩, fun a o vs k' e d q => ⟨q, o, k a o (ne a o e fun _ q => by rw [d] at q; cases q) e, rfl, rfl⟩⟩
  have fr : ∀ f ∈ fx.fs, ∀ b o, f.frame = some b → s.heap.get? b = some o → h'.get? b = some o := fun f hf b o hb ho => k b o (ne b o ho (frame_out R.toRelC hf hb ho)) ho
  obtain ⟨mc, ⟨o, es, ep, e, r⟩, M⟩ := R.fr
  refine ⟨⟨fun b o e => k b o (fun q => by rw [q, bI] at e; cases e) (R.base b o e), fun n a hn e => ?_, fun n a hn e => ?_, R.dom, R.inj, ff_on R.ff fun f hf b o hb ho hd => ⟨o, fr f hf b o hb ho, hd⟩, R.gens, R.os⟩,
    ⟨mc, ⟨o, es, ep, fr fx.env (.head _) _ _ rfl e, r⟩, M.carry C fun _ _ q => q⟩, ⟨R.hist.carry.trans C, fun f hf b o hb h0 => fr f (.tail _ hf) b o hb (R.hist.frames f hf b o hb h0)⟩, R.Lout, fun c hc => ?_⟩
  · obtain ⟨x, y, z⟩ := R.st n a hn e
    obtain ⟨ob, q, _⟩ := z.cls
    refine ⟨x, y, z.carry C (fun _ _ _ q => q) ((k a ob (fun w => nI n (w ▸ e)) q).trans q.symm)⟩
  · obtain ⟨o, q, r⟩ := R.hi n a hn e
    exact ⟨o, k a o (fun w => nI n (w ▸ e)) q, r⟩
  · obtain ⟨h1, ⟨u, ⟨o, e, d⟩, r'⟩, h2⟩ := R.cv c hc
    exact ⟨h1, ⟨u, ⟨o, k _ o (ne _ o e fun _ q => by rw [d] at q; cases q) e, d⟩, LRepO.carry C (fun _ _ _ q => q) r'⟩, h2⟩
theorem store_local {x : Str} {l : LV} {v : Value} {A : Around} {Q : Unit → Shared → Prop} (R : Rel cx fx ρ m σ s) (r : LRep ρ s.heap l v) (hk : fx.cs.kind = .function) (hx : fx.env.kindOf x = some .local)
    (q : ∀ s', Rel cx fx ρ (putl m x l) σ s' → Ext permH (fun a => a = fx.L) ρ s.heap ρ s'.heap → Q () s') : wpAny (model PW cx.w) A (storeName fx.env x v) Q E s := by
  obtain ⟨mc, hn, M⟩ := R.fr
  refine wpAny_storeName_local hx hn (fun h' hn' hs' => ?_) (by show (fx.cs.kind == .class || (fx.cs.kind == .module && fx.L != mainGlobals)) = false; rw [hk]; rfl)
  obtain ⟨R₂, X₂⟩ := R.store (t := s.toks + 1) hn' hs' M r
  exact q _ R₂ X₂
theorem X_while {t : Expr} {b : List Stmt} {p : Pos} {Q : Fl → Locals → Store → Prop} (hO : Own cx fx E) (J : Nat → Locals → Store → Prop) (n : Nat) (h0 : J n m σ)
    (step : ∀ n m σ, J n m σ → TT cx fx E d t m σ (fun c σ₁ => (c = true → TS cx fx E d b m σ₁ (fun fl m' σ' => match fl with | .next => ∃ k, k < n ∧ J k m' σ' | .cont => ∃ k, k < n ∧ J k m' σ' | .brk => Q .next m' σ' | .ret l => Q (.ret l) m' σ')) ∧ (c = false → Q .next m σ₁))) :
    TX cx fx E d (.While t b [] p) m σ Q := fun A ρ s ok R => by
  refine wpAny_While (codeAny_whileLoop (fun n s' => ∃ m' σ' ρ', Ext permH (fun a => a = fx.L) ρ s.heap ρ' s'.heap ∧ Rel cx fx ρ' m' σ' s' ∧ J n m' σ') ?_ n ⟨m, σ, ρ, .refl _ _, R, h0⟩)
  rintro n s' ⟨m', σ', ρ', X', R', j⟩
  refine wpAny_passesOwn (hO A ok.same) (wpAny_mono (step n m' σ' j A ρ' s' ok R') (fun c s₁ ⟨σ₁, ρ₁, X₁, R₁, h₁, h₂⟩ => ?_) fun _ _ x => x)
  cases c with
  | true =>
    refine wpAny_passesOwn (hO A ok.same) (wpAny_mono (h₁ rfl A ρ₁ s₁ ok R₁) (fun f s₂ ⟨fl, m₂, σ₂, ρ₂, X₂, R₂, r₂, q⟩ => ?_) fun _ _ x => x)
    have Y := X'.trans (X₁.st.trans X₂)
    cases fl <;> cases f <;> first | exact r₂.elim | skip
    · obtain ⟨k, hk, j'⟩ := q; exact ⟨k, hk, m₂, σ₂, ρ₂, Y, R₂, j'⟩
    · exact ⟨.next, m₂, σ₂, ρ₂, Y, R₂, trivial, q⟩
    · obtain ⟨k, hk, j'⟩ := q; exact ⟨k, hk, m₂, σ₂, ρ₂, Y, R₂, j'⟩
    · exact ⟨.ret _, m₂, σ₂, ρ₂, Y, R₂, r₂, q⟩
  | false => exact wpAny_execs_nil ⟨.next, m', σ₁, ρ₁, X'.trans X₁.st, R₁, trivial, h₂ rfl⟩
/-- an iterator at its first item -/
noncomputable def IterAt (w : World) (A : Around) (base : Heap) (ρ : RM) (h : Heap) (I : Addr) (xs : List PyData) : Prop :=
  ∃ fp P St oI vs, Walks PW w A I fp [I] xs.length P St ∧ (∀ b ∈ fp, b = I ∨ Frozen ρ h b) ∧ (∀ n, ρ n ≠ some I) ∧ base.get? I = none ∧ h.get? I = some oI ∧ oI.data = .fields vs ∧ St 0 h ∧ (∀ i v, P i v → i < xs.length → ∃ x, xs[i]? = some x ∧ DRep ρ h x v) ∧ (∀ i h', St i h' → ∃ o vs, h'.get? I = some o ∧ o.data = .fields vs)
noncomputable def TI (cx : Cx) (fx : Fx) (E : Value → Shared → Prop) (d : Nat) (e : Expr) (m : Locals) (σ : Store) (Q : List PyData → Store → Prop) : Prop :=
  ∀ A ρ s, AOk A d fx → Rel cx fx ρ m σ s → wpAny (model PW cx.w) A (eval e fx.env) (fun xv s₁ => wpAny (model PW cx.w) A (pyIter xv) (fun it s₂ =>
    ∃ xs σ' ρ' I, it = .ref I ∧ Ext allN noS ρ s.heap ρ' s₂.heap ∧ Rel cx fx ρ' m σ' s₂ ∧ s.heap.get? I = none ∧ IterAt cx.w A cx.base ρ' s₂.heap I xs ∧ Q xs σ') E s₁) E s
/-- the turns of a loop -/
noncomputable def ForL (cx : Cx) (fx : Fx) (E : Value → Shared → Prop) (d : Nat) (x : Str) (b : List Stmt) (Q : Fl → Locals → Store → Prop) : List PyData → Locals → Store → Prop
  | [], m, σ => Q .next m σ
  | y :: ys, m, σ => TS cx fx E d b (putl m x (.dat y)) σ (fun fl m' σ' => match fl with | .next => ForL cx fx E d x b Q ys m' σ' | .cont => ForL cx fx E d x b Q ys m' σ' | .brk => Q .next m' σ' | .ret l => Q (.ret l) m' σ')
theorem X_for {x : Str} {px p : Pos} {e : Expr} {b : List Stmt} {Q : Fl → Locals → Store → Prop} (hO : Own cx fx E) (hd : 0 < d) (h : TI cx fx E d e m σ (fun xs σ₁ => ForL cx fx E d x b Q xs m σ₁)) (hk : fx.cs.kind = .function := by rfl) (hx : fx.env.kindOf x = some .local := by rfl)
    (hs : ∀ v, foldedSetIterable e fx.env v = pure v := by intro _; rfl) : TX cx fx E d (.For (.Name x px) e b [] p) m σ Q := fun A ρ s ok R => by
  refine wpAny_For (wpAny_mono (h A ρ s ok R) (fun xv s₁ h₁ => wpAny_mono h₁ (fun it s₂ h₂ => ?_) fun _ _ x => x) fun _ _ x => x) hs
  obtain ⟨xs, σ₂, ρ₂, I, rfl, X₂, R₂, nI0, ⟨fp, P, St, oI, vs, W, hfp, nI, bI, gI, dI, st, hP, hSt⟩, q⟩ := h₂
  refine codeAny_forLoop (fun k s' => ∃ i ρ' m' σ', k = xs.length - i ∧ i ≤ xs.length ∧ Ext permH (fun a => a = fx.L) ρ s.heap ρ' s'.heap ∧ Carry ρ₂ s₂.heap ρ' s'.heap ∧ Rel cx fx ρ' m' σ' s' ∧ St i s'.heap ∧ (∀ n, ρ' n ≠ some I) ∧ ForL cx fx E d x b Q (xs.drop i) m' σ')
    ?_ (xs.length - 0) ⟨0, ρ₂, m, σ₂, rfl, Nat.zero_le _, X₂.st, .refl _ _, R₂, st, nI, q⟩
  rintro k s' ⟨i, ρ', m', σ', rfl, hi, X', C', R', st', nI', fl⟩
  by_cases hlt : i < xs.length
  · refine W.item i s' _ _ hlt st' fun v h₁ tk₁ hp st₁ k₁ => ?_
    obtain ⟨o', vs', gI', dI'⟩ := hSt _ _ st'
    obtain ⟨o'', _, gI'', dI''⟩ := hSt _ _ st₁
    have R₁ : Rel cx fx ρ' m' σ' { s' with heap := h₁, toks := tk₁ } := R'.side gI' dI' nI' bI (fun b o hb => k₁ b o (fun hm => hb (List.mem_singleton.mp hm)))
    have C₁ : Carry ρ' s'.heap ρ' h₁ := by
      have ne : ∀ b o, s'.heap.get? b = some o → (∀ vs, o.data ≠ .fields vs) → b ∉ [I] := fun b o e n q => by
        rw [List.mem_singleton.mp q, gI'] at e; cases e; exact n _ dI'
      exact ⟨fun a o vs k' e _ d => ⟨o, k₁ a o (ne a o e fun _ q => by rw [d] at q; cases q) e, rfl, rfl⟩, fun a o vs k' e d q => ⟨q, o, k₁ a o (ne a o e fun _ q => by rw [d] at q; cases q) e, rfl, rfl⟩⟩
    obtain ⟨y, ey, ry⟩ := hP i v hp hlt
    have ry' : LRep ρ' h₁ (.dat y) v := DRep.carry (C'.trans C₁) ry
    have X₁ : Ext permH (fun a => a = fx.L) ρ s.heap ρ' h₁ := by
      refine ⟨X'.le, X'.from_, fun a o e k hs => k₁ a o (fun hm => ?_) (X'.keep a o e k hs), fun a o e => ?_⟩
      · rw [List.mem_singleton.mp hm, nI0] at e; cases e
      · obtain ⟨o', e'⟩ := X'.there a o e
        by_cases hm : a = I
        · subst hm; exact ⟨_, gI''⟩
        · exact ⟨o', k₁ a o' (fun q => hm (List.mem_singleton.mp q)) e'⟩
    refine wpAny_assign_Name (store_local R₁ ry' hk hx fun s₂' R₂' X₂' => ?_)
    have ed : xs.drop i = y :: xs.drop (i + 1) := by rw [List.drop_eq_getElem_cons hlt]; congr 1; exact Option.some.inj ((List.getElem?_eq_getElem hlt).symm.trans ey)
    rw [ed] at fl
    refine wpAny_passesOwn (hO A ok.same) (wpAny_mono (fl A ρ' s₂' ok R₂') (fun f s₃ ⟨fl', m₃, σ₃, ρ₃, X₃, R₃, r₃, q₃⟩ => ?_) fun _ _ x => x)
    have Xb := X₂'.trans X₃
    have Y := X₁.trans Xb
    have go : ForL cx fx E d x b Q (xs.drop (i + 1)) m₃ σ₃ → ∃ k, k < xs.length - i ∧ ∃ i' ρ' m' σ', k = xs.length - i' ∧ i' ≤ xs.length ∧ Ext permH (fun a => a = fx.L) ρ s.heap ρ' s₃.heap ∧ Carry ρ₂ s₂.heap ρ' s₃.heap ∧ Rel cx fx ρ' m' σ' s₃ ∧ St i' s₃.heap ∧ (∀ n, ρ' n ≠ some I) ∧ ForL cx fx E d x b Q (xs.drop i') m' σ' := fun fl => by
      have hL : ∃ o, h₁.get? fx.L = some o ∧ ∀ vs k, o.data ≠ .seq vs k := by
        obtain ⟨_, ⟨oL, es, ep, eL, dL, _⟩, _⟩ := R₁.fr
        exact ⟨oL, eL, fun vs k q => by rw [dL] at q; cases q⟩
      have C₃ : Carry ρ' h₁ ρ₃ s₃.heap := Ext.carry R₁.toRelC Xb (fun a q => q ▸ hL)
      refine ⟨_, by lia, i + 1, ρ₃, m₃, σ₃, rfl, hlt, Y, (C'.trans C₁).trans C₃, R₃, W.frame _ _ _ st₁ fun b' hb' o e => ?_, Xb.off gI'' nI', fl⟩
      rcases hfp b' hb' with rfl | hf
      · exact Xb.keep _ _ e (fun n _ => nI' n) (R₁.notL e fun es k q => by rw [gI''] at e; cases e; rw [dI''] at q; cases q)
      · obtain ⟨⟨o', vs', k', g', d'⟩, u⟩ := Frozen.carry (C'.trans C₁) hf
        rw [e] at g'; cases g'
        exact Xb.keep _ _ e (fun n _ => u n) (R₁.notL e fun es k q => by rw [d'] at q; cases q)
    cases fl' <;> cases f <;> first | exact r₃.elim | skip
    · exact go q₃
    · exact ⟨.next, m₃, σ₃, ρ₃, Y, R₃, trivial, q₃⟩
    · exact go q₃
    · exact ⟨.ret _, m₃, σ₃, ρ₃, Y, R₃, r₃, q₃⟩
  · have e : i = xs.length := by lia
    subst e
    rw [List.drop_length] at fl
    refine W.done s' _ _ st' fun h₁ tk₁ k₁ => wpAny_execs_nil ?_
    obtain ⟨o', vs', gI', dI'⟩ := hSt _ _ st'
    have R₁ : Rel cx fx ρ' m' σ' { s' with heap := h₁, toks := tk₁ } := R'.side gI' dI' nI' bI (fun b o hb => k₁ b o (fun hm => hb (List.mem_singleton.mp hm)))
    have off : ∀ a o, s.heap.get? a = some o → a ∉ [I] := fun a o e hm => by rw [List.mem_singleton.mp hm, nI0] at e; cases e
    exact ⟨.next, m', σ', ρ', ⟨X'.le, X'.from_, fun a o e k hs => k₁ a o (off a o e) (X'.keep a o e k hs), fun a o e => by
      obtain ⟨o', e'⟩ := X'.there a o e
      exact ⟨o', k₁ a o' (off a o e) e'⟩⟩, R₁, trivial, fl⟩
end
section
variable {cx : Cx} {fx : Fx} {E : Value → Shared → Prop} {d : Nat} {m : Locals} {σ : Store} {ρ : RM} {s : Shared}
/-- a variable in a cell -/
theorem T_cell {x : Str} {p : Pos} {a : Addr} {l : LV} {Q : LV → Store → Prop} (hc : (x, a, some l) ∈ fx.cv) (q : Q l σ) (hk : fx.cs.kind = .function := by rfl) (hx : fx.env.kindOf x = some .cell := by rfl) (hd : (x == ("__debug__" : Str)) = false := by rfl) :
    TE cx fx E d (.Name x p) m σ Q := fun A ρ s _ R => by
  obtain ⟨h1, ⟨v, hv, r⟩, _⟩ := R.cv _ hc
  cases v with
  | none => exact r.elim
  | some v => exact wpAny_Name (wpAny_loadName_cell hk hx h1 hv (VP.now R r q)) hd
/-- a body's triple: all that is newer than the entry may turn -/
noncomputable def TG (cx : Cx) (fx : Fx) (E : Value → Shared → Prop) (d : Nat) (ss : List Stmt) (m : Locals) (σ : Store) (Q : Fl → Locals → Store → Prop) : Prop :=
  ∀ A ρ s, AOk A d fx → Rel cx fx ρ m σ s → (∀ c ∈ fx.L :: fx.cells.map Prod.snd, fx.h0.get? c = none ∧ cx.base.get? c = none ∧ ∀ f ∈ fx.outer, f.frame ≠ some c) → wpAny (model PW cx.w) A (execs ss fx.env)
    (fun f s' => ∃ fl m' σ' ρ' cv', Ext permH (fun a => fx.h0.get? a = none) ρ s.heap ρ' s'.heap ∧ Rel cx { fx with cv := cv' } ρ' m' σ' s' ∧ FlRep ρ' s'.heap fl f ∧ Q fl m' σ') E s
theorem TG_of {ss : List Stmt} {Q : Fl → Locals → Store → Prop} (h : TS cx fx E d ss m σ Q) : TG cx fx E d ss m σ Q := fun A ρ s ok R n =>
  wpAny_mono (h A ρ s ok R) (fun f s' ⟨fl, m', σ', ρ', X, R', r, q⟩ => ⟨fl, m', σ', ρ', fx.cv, X.weaken (fun _ h => h) fun a e => (by cases e; exact (n _ (.head _)).1), R', r, q⟩) fun _ _ x => x
end
theorem lk_filter {α : Type} (g : Str → Bool) : ∀ (m : List (Str × α)) (x : Str), lk (m.filter fun p => g p.1) x = if g x = true then lk m x else none
  | [], x => by simp [lk]
  | p :: r, x => by
    rw [List.filter_cons]
    by_cases h : g p.1 = true
    · rw [if_pos h, lk_cons, lk_cons, lk_filter g r x]
      by_cases e : p.1 = x
      · subst e; simp [h]
      · simp only [if_neg e]
    · rw [if_neg h, lk_cons, lk_filter g r x]
      by_cases e : p.1 = x
      · subst e; simp [h]
      · simp only [if_neg e]
theorem lk_mem {α : Type} : ∀ {m : List (Str × α)} {x : Str} {v : α}, lk m x = some v → (x, v) ∈ m
  | p :: r, x, v, h => by
    rw [lk_cons] at h
    by_cases e : p.1 = x
    · rw [if_pos e] at h; cases h; subst e; exact .head _
    · rw [if_neg e] at h; exact .tail _ (lk_mem h)
theorem bindL_other (k : Str → Option NameKind) : ∀ (b : List (Str × Value)) (m : Str → Option Value) {y : Str}, (∀ p ∈ b, p.1 ≠ y) → bindL k b m y = m y
  | [], _, _, _ => rfl
  | (n, v) :: r, m, y, h => by
    unfold bindL
    rw [bindL_other k r _ fun p hp => h p (.tail _ hp)]
    have := h _ (.head _)
    split
    · exact if_neg (Ne.symm this)
    · rfl
theorem bindL_get (k : Str → Option NameKind) : ∀ (b : List (Str × Value)) (m : Str → Option Value) {y : Str} {v : Value}, (b.map Prod.fst).Nodup → (y, v) ∈ b → k y = some .local → bindL k b m y = some v
  | (n, u) :: r, m, y, v, hn, hm, hk => by
    obtain ⟨h1, h2⟩ := List.nodup_cons.mp hn
    unfold bindL
    rcases List.mem_cons.mp hm with e | hm
    · cases e
      rw [bindL_other k r _ fun p hp q => h1 (by have z := List.mem_map_of_mem (f := Prod.fst) hp; rw [q] at z; exact z), if_pos hk]
      exact if_pos rfl
    · exact bindL_get k r _ h2 hm hk
theorem bindC_other (k : Str → Option NameKind) : ∀ (b : List (Str × Value)) (m : Str → Option Value) {y : Str}, (∀ p ∈ b, p.1 ≠ y) → bindC k b m y = m y
  | [], _, _, _ => rfl
  | (n, v) :: r, m, y, h => by
    unfold bindC
    rw [bindC_other k r _ fun p hp => h p (.tail _ hp)]
    have := h _ (.head _)
    split
    · rfl
    · exact if_neg (Ne.symm this)
theorem bindC_get (k : Str → Option NameKind) : ∀ (b : List (Str × Value)) (m : Str → Option Value) {y : Str} {v : Value}, (b.map Prod.fst).Nodup → (y, v) ∈ b → k y ≠ some .local → bindC k b m y = some v
  | (n, u) :: r, m, y, v, hn, hm, hk => by
    obtain ⟨h1, h2⟩ := List.nodup_cons.mp hn
    unfold bindC
    rcases List.mem_cons.mp hm with e | hm
    · cases e
      rw [bindC_other k r _ fun p hp q => h1 (by have z := List.mem_map_of_mem (f := Prod.fst) hp; rw [q] at z; exact z), if_neg hk]
      exact if_pos rfl
    · exact bindC_get k r _ h2 hm hk
theorem fst_zip_sub {α : Type} : ∀ {ns : List Str} {vs : List α}, ((ns.zip vs).map Prod.fst).Sublist ns
  | [], _ => by simp
  | n :: ns, [] => by simp
  | n :: ns, v :: vs => by simpa using fst_zip_sub
theorem All2.some_left {ρ : RM} {h : Heap} : ∀ {names : List Str} {ls : List LV} {vs : List Value}, All2 (LRep ρ h) ls vs → ∀ x, lk (names.zip ls) x = none → lk (names.zip vs) x = none
  | [], _, _, _, _, _ => rfl
  | n :: ns, [], _, r, x, e => by cases r; rfl
  | n :: ns, l :: ls, _ , r, x, e => by
    cases r with
    | cons r0 r =>
      rw [List.zip_cons_cons, lk_cons] at e ⊢
      by_cases h : n = x
      · rw [if_pos h] at e; cases e
      · rw [if_neg h] at e; rw [if_neg h]; exact All2.some_left r x e
theorem lk_none {α : Type} : ∀ {m : List (Str × α)} {x : Str}, lk m x = none → ∀ p ∈ m, p.1 ≠ x
  | p :: r, x, h, q, hq => by
    rw [lk_cons] at h
    by_cases e : p.1 = x
    · rw [if_pos e] at h; cases h
    · rw [if_neg e] at h
      rcases List.mem_cons.mp hq with rfl | hq
      · exact e
      · exact lk_none h q hq
noncomputable def cvOf (cells : List (Str × Addr)) (m : Locals) (cn : List Str) : List (Str × Addr × Option LV) := cn.filterMap fun y => (cells.lookup y).map fun a => (y, a, lk m y)
/-- a contract from a body whose parameters lie in part in cells -/
theorem TC_fnC {cx : Cx} {d : Nat} {ls : List LV} {σ : Store} {Q : LV → Store → Prop} {X : PyData → Prop} {name qual : Str} {params : Arguments} {body : List Stmt} {scope : Scope} {dV kV doc pm cdv ct oc : Value} {an od : Option Addr} {osl : Array (Option Value)} {f : Addr} (ok : CxOk cx)
    (ho : (KF cx.w.params).lookup f = some ⟨oc, od, .func (fnX name qual params body scope [] dV kV doc pm an cdv ct), osl⟩) (hcd : codeIn (KF cx.w.params) cdv qual = true) (names : List Str)
    (hbind : ∀ vs, vs.length = ls.length → bindArgs (fnX name qual params body scope [] dV kV doc pm an cdv ct) ⟨vs, []⟩ = pure (names.zip vs))
    (cn : List Str) (hloc : ∀ y ∈ names, scope.names.lookup y = some .local ∨ (scope.names.lookup y = some .cell ∧ y ∈ cn)) (hcn : ∀ y ∈ cn, scope.names.lookup y = some .cell ∧ ∀ n, ((cellsFrom n scope.names []).lookup y).isSome = true) (hnd : names.Nodup)
    (h : ∀ L outer ρ0 h0 A cv, (∀ y ∈ cn, ∃ a, (cellsFrom (L + 1) scope.names []).lookup y = some a ∧ (y, a, lk (names.zip ls) y) ∈ cv) → (∀ c ∈ cv, ∃ y, c.2.2 = lk (names.zip ls) y) → TG cx ⟨qual, scope, L, f, cdv, outer, ρ0, h0, A, cellsFrom (L + 1) scope.names [], cv⟩ (EX cx ⟨qual, scope, L, f, cdv, outer, ρ0, h0, A, cellsFrom (L + 1) scope.names [], cv⟩ X) d body ((names.zip ls).filter fun p => scope.names.lookup p.1 == some .local) (low σ) (Ends Q))
    (hco : scope.isCoroutine = false := by rfl) (hgen : scope.isGenerator = false := by rfl) (hk : scope.kind = .function := by rfl) : TC cx d (.ref f) ls σ Q X := fun A fs ρ s vs cok R r => by
  refine codeAny_call_cells (fd := fnX name qual params body scope [] dV kV doc pm an cdv ct) (body := body) (binds := names.zip vs) (Nat.lt_of_lt_of_le (by have := cok.depth; lia : A.depth < 990) (by decide)) ((ok.K.keeps R.base) _ _ ho) rfl (ok.T.nolimit.keeps R.base)
    (codeRec_of (ok.K.keeps R.base) hcd) rfl (hbind vs r.length.symm) rfl (fun x hx => (hloc _ (List.of_mem_zip hx).1).imp id fun z => ⟨z.1, (hcn _ z.2).2 _⟩) (fun s₁ I => ?_) hco hgen hk
  obtain ⟨⟨⟨h₁, tk, rfl⟩, hns, hk₁, -⟩, Ic, -, Iab⟩ := I
  replace hns : h₁.Ns s.heap.objs.size (bindL (fun y => scope.names.lookup y) (names.zip vs) fun _ => none) := hns
  replace hk₁ : ∀ b o, s.heap.get? b = some o → h₁.get? b = some o := hk₁
  replace Ic : ∀ n c, (cellsFrom (s.heap.objs.size + 1) scope.names []).lookup n = some c → h₁.IsCell c (bindC (fun y => scope.names.lookup y) (names.zip vs) (fun _ => none) n) := Ic
  replace Iab : ∀ n c, (n, c) ∈ cellsFrom (s.heap.objs.size + 1) scope.names [] → s.heap.objs.size < c := Iab
  show wpAny (model PW cx.w) (A.deeper (envX qual scope s.heap.objs.size f cdv (cellsFrom (s.heap.objs.size + 1) scope.names []))) _ _ _ _
  have lt : ∀ k a, ρ k = some a → a < s.heap.objs.size := fun k a e => by
    obtain ⟨ob, q⟩ := R.there e
    exact Heap.lt_size q
  have C : Carry ρ s.heap ρ h₁ := ⟨fun a o _ _ e _ _ => ⟨o, hk₁ _ _ e, rfl, rfl⟩, fun a o _ _ e _ q => ⟨q, o, hk₁ _ _ e, rfl, rfl⟩⟩
  have nb : cx.base.get? s.heap.objs.size = none := by
    cases q : cx.base.get? s.heap.objs.size with
    | none => rfl
    | some o' => exact absurd (Heap.lt_size (R.base _ _ q)) (Nat.lt_irrefl _)
  have nf : ∀ e ∈ fs, e.frame ≠ some s.heap.objs.size := fun e he z => by
    obtain ⟨L, ob, e1, e2⟩ := funFrames_in R.ff e he
    rw [e1] at z; cases z
    exact absurd (Heap.lt_size e2) (Nat.lt_irrefl _)
  have hns' := hns
  obtain ⟨oL, es, ep, gL, dL, _⟩ := hns'
  have hA : (A.deeper (envX qual scope s.heap.objs.size f cdv (cellsFrom (s.heap.objs.size + 1) scope.names []))).frames = some (envX qual scope s.heap.objs.size f cdv (cellsFrom (s.heap.objs.size + 1) scope.names []) :: fs) := Around.frames_deeper cok.frames
  have ff' : h₁.FunFrames cx.base fs := ff_on R.ff fun e _ a o' _ q dd => ⟨o', hk₁ _ _ q, dd⟩
  have nd' : ((names.zip vs).map Prod.fst).Nodup := fst_zip_sub.nodup hnd
  have hcv : ∀ y ∈ cn, ∃ a, (cellsFrom (s.heap.objs.size + 1) scope.names []).lookup y = some a ∧ (y, a, lk (names.zip ls) y) ∈ cvOf (cellsFrom (s.heap.objs.size + 1) scope.names []) (names.zip ls) cn := fun y hy => by
    obtain ⟨a, e⟩ := Option.isSome_iff_exists.mp ((hcn y hy).2 (s.heap.objs.size + 1))
    exact ⟨a, e, List.mem_filterMap.mpr ⟨y, hy, by rw [e]; rfl⟩⟩
  have R₁ : Rel cx ⟨qual, scope, s.heap.objs.size, f, cdv, fs, ρ, s.heap, A.deeper (envX qual scope s.heap.objs.size f cdv (cellsFrom (s.heap.objs.size + 1) scope.names [])), cellsFrom (s.heap.objs.size + 1) scope.names [], cvOf (cellsFrom (s.heap.objs.size + 1) scope.names []) (names.zip ls) cn⟩ ρ ((names.zip ls).filter fun p => scope.names.lookup p.1 == some .local) (low σ) { s with heap := h₁, toks := tk } := by
    refine ⟨⟨fun b o e => hk₁ _ _ (R.base b o e), fun n a hn e => ?_, fun n a hn e => ?_, R.dom, R.inj, ⟨(fun q => by have e : scope.kind = .module := q; rw [hk] at e; cases e), ⟨_, _, rfl, nb, gL, (fun vs q => by rw [dL] at q; cases q)⟩, ff'⟩, R.gens, R.os⟩, ⟨_, hns, fun x l e => ?_⟩, ⟨C, fun e he a o _ h0 => hk₁ _ _ h0⟩, nf, fun c hc => ?_⟩
    · obtain ⟨x, y, z⟩ := R.st n a hn e
      obtain ⟨ob, q, _⟩ := z.cls
      refine ⟨x, fun ev he hf => ?_, z.carry C (fun _ _ _ q => q) ((hk₁ _ _ q).trans q.symm)⟩
      rcases List.mem_cons.mp he with rfl | he
      · have : s.heap.objs.size = a := Option.some.inj hf
        exact absurd (lt n a e) (this ▸ Nat.lt_irrefl _)
      · exact y ev he hf
    · obtain ⟨o, q, r1, r2⟩ := R.hi n a hn e
      refine ⟨o, hk₁ _ _ q, r1, fun ev he hf => ?_⟩
      rcases List.mem_cons.mp he with rfl | he
      · have : s.heap.objs.size = a := Option.some.inj hf
        exact absurd (lt n a e) (this ▸ Nat.lt_irrefl _)
      · exact r2 ev he hf
    · rw [lk_filter (fun y => scope.names.lookup y == some .local)] at e
      by_cases g : (scope.names.lookup x == some .local) = true
      · rw [if_pos g] at e
        obtain ⟨v, e1, e2⟩ := zipRep r x l e
        exact ⟨v, bindL_get _ _ _ nd' (lk_mem e1) (beq_iff_eq.mp g), LRep.carry C (fun _ _ _ q => q) e2⟩
      · rw [if_neg g] at e; cases e
    · obtain ⟨y, hy, e⟩ := List.mem_filterMap.mp hc
      obtain ⟨a, e1, rfl⟩ := Option.map_eq_some_iff.mp e
      refine ⟨e1, ⟨_, Ic _ _ e1, ?_⟩, fun n z => absurd (lt n a z) (Nat.not_lt.mpr (Nat.le_of_lt (Iab _ _ (mem_of_lookup e1))))⟩
      show LRepO ρ h₁ (lk (names.zip ls) y) _
      cases q : lk (names.zip ls) y with
      | none =>
        rw [bindC_other _ _ _ (lk_none (All2.some_left r y q))]
        trivial
      | some l =>
        obtain ⟨v, e1', e2⟩ := zipRep r y l q
        rw [bindC_get _ _ _ nd' (lk_mem e1') (by rw [(hcn y hy).1]; simp)]
        exact LRep.carry C (fun _ _ _ q => q) e2
  have aok : AOk (A.deeper (envX qual scope s.heap.objs.size f cdv (cellsFrom (s.heap.objs.size + 1) scope.names []))) d ⟨qual, scope, s.heap.objs.size, f, cdv, fs, ρ, s.heap, A.deeper (envX qual scope s.heap.objs.size f cdv (cellsFrom (s.heap.objs.size + 1) scope.names [])), cellsFrom (s.heap.objs.size + 1) scope.names [], cvOf (cellsFrom (s.heap.objs.size + 1) scope.names []) (names.zip ls) cn⟩ :=
    ⟨.inr cok.handled, hA, by have := cok.depth; show A.depth + 1 + d < 990; lia, by have := cok.units; show A.units + 3 + 10 * d + 100 < 9900; lia, .refl _, hA⟩
  have new : ∀ c ∈ s.heap.objs.size :: (cellsFrom (s.heap.objs.size + 1) scope.names []).map Prod.snd, s.heap.get? c = none ∧ cx.base.get? c = none ∧ ∀ f ∈ fs, f.frame ≠ some c := fun c hc => by
    have hz : s.heap.get? c = none := ?_
    · refine ⟨hz, ?_, fun f hf q => ?_⟩
      · cases e : cx.base.get? c with
        | none => rfl
        | some o' => rw [R.base _ _ e] at hz; cases hz
      · obtain ⟨L, ob, e1, e2⟩ := funFrames_in R.ff f hf
        rw [e1] at q; cases q; rw [hz] at e2; cases e2
    refine Heap.get?_none_of_le ?_
    rcases List.mem_cons.mp hc with rfl | hc
    · exact Nat.le_refl _
    · obtain ⟨p, hp, rfl⟩ := List.mem_map.mp hc
      exact Nat.le_of_lt (Iab _ _ hp)
  refine wpAny_mono (h s.heap.objs.size fs ρ s.heap (A.deeper (envX qual scope s.heap.objs.size f cdv (cellsFrom (s.heap.objs.size + 1) scope.names []))) _ (fun y hy => hcv y hy) (fun c hc => by obtain ⟨y, hy, e⟩ := List.mem_filterMap.mp hc; obtain ⟨a, _, rfl⟩ := Option.map_eq_some_iff.mp e; exact ⟨y, rfl⟩) _ ρ _ aok R₁ new) (fun fl s' ⟨fl', m', σ', ρ', cv', X', R', r', q⟩ => ?_) fun e s' x => ?_
  · -- the way back
    have keepA : ∀ b o, s.heap.get? b = some o → (∀ n, n < 1000 → ρ n ≠ some b) → s'.heap.get? b = some o := fun b o e k => X'.keep b o (hk₁ _ _ e) k (fun q => by
      have q' : s.heap.get? b = none := q
      rw [e] at q'; cases q')
    -- all temporaries fall
    have C' : Carry ρ' s'.heap (fun n => if 32 ≤ n ∧ n < 1000 then none else ρ' n) s'.heap := ⟨fun a o _ _ e _ _ => ⟨o, e, rfl, rfl⟩, fun a o _ _ e _ q => ⟨fun n z => by
      by_cases h : 32 ≤ n ∧ n < 1000
      · rw [if_pos h] at z; cases z
      · rw [if_neg h] at z; exact q n z, o, e, rfl, rfl⟩⟩
    have Y : Ext allN noS ρ s.heap (fun n => if 32 ≤ n ∧ n < 1000 then none else ρ' n) s'.heap := by
      refine ⟨fun n a _ e => ?_, fun n a e => ?_, fun a o e k _ => keepA a o e k, ?_⟩
      · by_cases h : 32 ≤ n ∧ n < 1000
        · have := (R.st n a h.2 e).2.2
          rw [low_ge h.1] at this; exact this.elim
        · rw [if_neg h]; exact X'.le n a (by unfold permH; lia) e
      · by_cases h : 32 ≤ n ∧ n < 1000
        · rw [if_pos h] at e; cases e
        · rw [if_neg h] at e
          rcases X'.from_ n a e with q | q
          · exact .inl q
          · refine .inr ?_
            cases z : s.heap.get? a with
            | none => rfl
            | some o => have z' : h₁.get? a = none := q; rw [hk₁ _ _ z] at z'; cases z'
      · intro a o e
        exact X'.there a o (hk₁ _ _ e)
    have R₂ : RelC cx fs (fun n => if 32 ≤ n ∧ n < 1000 then none else ρ' n) (low σ') s' := by
      refine ⟨R'.base, fun n a hn e => ?_, fun n a hn e => ?_, fun n e => ?_, fun n k a e1 e2 => ?_, R'.ff.2.2, R'.gens, R'.os⟩
      · by_cases h : 32 ≤ n ∧ n < 1000
        · rw [if_pos h] at e; cases e
        · rw [if_neg h] at e
          obtain ⟨x, y, z⟩ := R'.st n a hn e
          rw [low_lt (show n < 32 by lia)]
          exact ⟨x, fun e he => y e (.tail _ he), z.carry C' (fun k b hk q => by rw [if_neg (by lia)]; exact q) rfl⟩
      · rw [if_neg (by lia)] at e; exact (let ⟨o, q, r1, r2⟩ := R'.hi n a hn e; ⟨o, q, r1, fun e he => r2 e (.tail _ he)⟩)
      · by_cases h : n < 32
        · rw [if_neg (by lia)] at e; rw [low_lt h]; exact R'.dom n e
        · exact low_ge (Nat.not_lt.mp h)
      · by_cases h : 32 ≤ n ∧ n < 1000
        · rw [if_pos h] at e1; cases e1
        · by_cases h' : 32 ≤ k ∧ k < 1000
          · rw [if_pos h'] at e2; cases e2
          · rw [if_neg h] at e1; rw [if_neg h'] at e2; exact R'.inj _ _ _ e1 e2
    cases fl' with
    | ret l =>
      cases fl with
      | ret v => exact ⟨l, σ', _, Y, R₂, LRep.carry C' (fun n a w e => (if_neg (by have := q.1 n w; lia)).trans e) r', q.1, q.2⟩
      | _ => exact r'.elim
    | next =>
      cases fl with
      | next => exact ⟨.dat .none, σ', _, Y, R₂, ⟨[], .none, fun _ h => (nomatch h)⟩, (fun _ e => nomatch e), q⟩
      | _ => exact r'.elim
    | _ => exact q.elim
  · exact wpAny_mono x (fun _ _ z => z) fun _ _ z => z.elim
section
variable {cx : Cx} {fx : Fx} {E : Value → Shared → Prop} {d : Nat} {m : Locals} {σ : Store} {ρ : RM} {s : Shared}
/-- a record that is pushed and bears no name -/
theorem Rel.push (R : Rel cx fx ρ m σ s) (o : Obj) (t : Nat) : Rel cx fx ρ m σ { s with heap := s.heap.push o, toks := t } ∧ Ext allN noS ρ s.heap ρ (s.heap.push o) := by
  obtain ⟨R', X⟩ := R.toRelC.push o
  exact ⟨(R.next R' X).toks t, X⟩
theorem newAddr (R : Rel cx fx ρ m σ s) : (∀ n, ρ n ≠ some s.heap.objs.size) ∧ cx.base.get? s.heap.objs.size = none ∧ s.heap.get? s.heap.objs.size = none := by
  have e : s.heap.get? s.heap.objs.size = none := Heap.get?_none_of_le (Nat.le_refl _)
  refine ⟨fun n q => ?_, ?_, e⟩
  · obtain ⟨o, z⟩ := R.toRelC.there q
    rw [e] at z; cases z
  · cases q : cx.base.get? s.heap.objs.size with
    | none => rfl
    | some o => have := R.base _ _ q; rw [e] at this; cases this
theorem old_none (R : Rel cx fx ρ m σ s) {ρ' : RM} {s' : Shared} (X : Ext allN noS ρ s.heap ρ' s'.heap) : s.heap.get? s'.heap.objs.size = none := by
  cases q : s.heap.get? s'.heap.objs.size with
  | none => rfl
  | some o =>
    obtain ⟨o', e⟩ := X.there _ _ q
    exact absurd (Heap.lt_size e) (Nat.lt_irrefl _)
theorem TI_list {e : Expr} {Q : List PyData → Store → Prop} (hd : 0 < d) (h : TE cx fx E d e m σ (fun l σ₁ => ∃ xs, l = .dat (.list xs) ∧ Q xs σ₁)) : TI cx fx E d e m σ Q := fun A ρ s ok R =>
  wpAny_mono (h A ρ s ok R) (fun xv s₁ ⟨l, σ₁, ρ₁, X₁, R₁, r₁, xs, e, q⟩ => by
    subst e
    obtain ⟨a, vs, rfl, hl, D⟩ := of_list r₁
    obtain ⟨as, rd, fz⟩ := r₁
    refine wpAny_pyIter_list hl ?_
    obtain ⟨R₂, X₂⟩ := R₁.push { cls := .type "list_iterator", data := .fields #[.ref a, .int 0 0] } s₁.toks
    obtain ⟨n1, n2, n3⟩ := newAddr R₁
    have hlt : a < s₁.heap.objs.size := by obtain ⟨_, e, _⟩ := hl; exact Heap.lt_size e
    have hl' : (s₁.heap.push { cls := .type "list_iterator", data := .fields #[.ref a, .int 0 0] }).IsList a vs := let ⟨o, e, r⟩ := hl; ⟨o, Heap.get?_push_of_some _ e, r⟩
    refine ⟨xs, σ₁, ρ₁, s₁.heap.objs.size, rfl, X₁.trans X₂, R₂, old_none R X₁, ⟨[s₁.heap.objs.size, a], fun i v => vs[i]? = some v, fun i h => h.IsListIter s₁.heap.objs.size a i ∧ h.IsList a vs, _, _, ?_, ?_, n1, n2, Heap.get?_push_size _ rfl, rfl, ⟨⟨_, Heap.get?_push_size _ rfl, rfl, rfl⟩, hl'⟩, ?_, ?_⟩, q⟩
    · have := Walks.list (prog := PW) (w := cx.w) (A := A) (ok.handled.resolve_left (by lia)) s₁.heap.objs.size a (Nat.ne_of_lt hlt) vs
      rw [show xs.length = vs.size by rw [D.length]; simp]; exact this
    · intro b hb
      rcases List.mem_cons.mp hb with rfl | hb
      · exact .inl rfl
      · rw [List.mem_singleton.mp hb]
        refine .inr (Frozen.carry (X₂.carry0 R₁.toRelC) ?_)
        cases rd with
        | list h1 h2 h3 h4 => exact fz _ (.head _)
    · intro i v hv hi
      obtain ⟨y, hy⟩ : ∃ y, xs[i]? = some y := ⟨_, List.getElem?_eq_getElem hi⟩
      obtain ⟨v', e', r'⟩ := D.get hy
      have : vs[i]? = some v' := by simpa using e'
      have hv' : vs[i]? = some v := hv
      rw [hv'] at this; cases this
      exact ⟨y, hy, DRep.carry (X₂.carry0 R₁.toRelC) r'⟩
    · rintro i h' ⟨⟨o, e, _, dd⟩, _⟩
      exact ⟨o, _, e, dd⟩) fun _ _ x => x
theorem TI_tup {e : Expr} {Q : List PyData → Store → Prop} (hd : 0 < d) (h : TE cx fx E d e m σ (fun l σ₁ => ∃ xs, l = .dat (.tuple xs) ∧ Q xs σ₁)) : TI cx fx E d e m σ Q := fun A ρ s ok R =>
  wpAny_mono (h A ρ s ok R) (fun xv s₁ ⟨l, σ₁, ρ₁, X₁, R₁, r₁, xs, e, q⟩ => by
    subst e
    obtain ⟨a, vs, rfl, hl, D⟩ := of_tup r₁
    refine wpAny_pyIter_tuple hl ?_
    obtain ⟨R₂, X₂⟩ := R₁.push { cls := .type "tuple_iterator", data := .fields #[.ref a, .int 0 0] } s₁.toks
    obtain ⟨n1, n2, n3⟩ := newAddr R₁
    have hlt : a < s₁.heap.objs.size := by obtain ⟨_, e, _⟩ := hl; exact Heap.lt_size e
    have hl' : (s₁.heap.push { cls := .type "tuple_iterator", data := .fields #[.ref a, .int 0 0] }).IsTuple a vs := let ⟨o, e, r⟩ := hl; ⟨o, Heap.get?_push_of_some _ e, r⟩
    refine ⟨xs, σ₁, ρ₁, s₁.heap.objs.size, rfl, X₁.trans X₂, R₂, old_none R X₁, ⟨[s₁.heap.objs.size, a], fun i v => vs[i]? = some v, fun i h => h.IsTupleIter s₁.heap.objs.size a i ∧ h.IsTuple a vs, _, _, ?_, ?_, n1, n2, Heap.get?_push_size _ rfl, rfl, ⟨⟨_, Heap.get?_push_size _ rfl, rfl, rfl⟩, hl'⟩, ?_, ?_⟩, q⟩
    · have := Walks.tuple (prog := PW) (w := cx.w) (A := A) (ok.handled.resolve_left (by lia)) s₁.heap.objs.size a (Nat.ne_of_lt hlt) vs
      rw [show xs.length = vs.size by rw [D.length]; simp]; exact this
    · intro b hb
      rcases List.mem_cons.mp hb with rfl | hb
      · exact .inl rfl
      · rw [List.mem_singleton.mp hb]
        obtain ⟨o, e, c, k, dd⟩ := hl'
        refine .inr ⟨⟨o, vs, k, e, dd⟩, fun n z => ?_⟩
        obtain ⟨ob, e', c', _⟩ := R₂.toRelC.thereT z
        have e'' : (s₁.heap.push { cls := .type "tuple_iterator", data := .fields #[.ref a, .int 0 0] }).get? a = some ob := e'
        rw [e] at e''; cases e''; exact c' c
    · intro i v hv hi
      obtain ⟨y, hy⟩ : ∃ y, xs[i]? = some y := ⟨_, List.getElem?_eq_getElem hi⟩
      obtain ⟨v', e', r'⟩ := D.get hy
      have : vs[i]? = some v' := by simpa using e'
      have hv' : vs[i]? = some v := hv
      rw [hv'] at this; cases this
      exact ⟨y, hy, DRep.carry (X₂.carry0 R₁.toRelC) r'⟩
    · rintro i h' ⟨⟨o, e, _, dd⟩, _⟩
      exact ⟨o, _, e, dd⟩) fun _ _ x => x
end
section
variable {cx : Cx} {fx : Fx} {E : Value → Shared → Prop} {d : Nat} {m : Locals} {σ : Store} {ρ : RM} {s : Shared}
/-! builtins by their names -/
theorem callWB {pos : Pos} {f : Value} {first : List Value} {ls : List LV} {es : List Expr} {Q : LV → Store → Prop} (hf : (∃ T, f = .type T) ∨ (∃ i, f = .builtin i)) {A : Around} (ok : AOk A d fx) (R : Rel cx fx ρ m σ s) (rf : All2 (LRep ρ s.heap) ls first)
    (h : TEs cx fx E d pos es m σ (fun ls' σ₁ => OC cx fx E d f (ls ++ ls') m σ₁ Q)) (hp : Plain fx pos es) :
    wpAny (model PW cx.w) A (callWith pos f first (backTo pos (starEach es fx.env)) []) (VP cx fx ρ m s Q) E s := by
  have fin : wpAny (model PW cx.w) A (spliced (backTo pos (starEach es fx.env))) (fun vs s₁ => wpAny (model PW cx.w) A (call f (first ++ vs) []) (VP cx fx ρ m s Q) E s₁) E s :=
    wpAny_mono (h A ρ s ok R) (fun vs s₁ ⟨ls', σ₁, ρ₁, X₁, R₁, r₁, h₁⟩ => wpAny_mono (h₁ A ρ₁ s₁ (first ++ vs) ok R₁ ((LReps.ext R X₁ rf).app r₁)) (fun _ _ z => VP.up X₁ z) fun _ _ x => x) fun _ _ x => x
  have args : wpAny (model PW cx.w) A (evalArgs f true (backTo pos (starEach es fx.env)) []) (fun a s₁ => wpAny (model PW cx.w) A (call f (first ++ a.pos) a.kw) (VP cx fx ρ m s Q) E s₁) E s := by
    unfold Plain at hp
    revert hp fin
    cases backTo pos (starEach es fx.env) with
    | nil => intro _ fin; exact evalArgs_sp0 fin
    | cons p rest =>
      obtain ⟨b, t⟩ := p
      intro hp fin
      rw [List.any_cons] at hp
      obtain rfl : b = false := (Bool.or_eq_false_iff.mp hp).1
      exact evalArgs_plain fin
  have tail : wpAny (model PW cx.w) A (callWith pos f first (backTo pos (starEach es fx.env)) []) (VP cx fx ρ m s Q) E s := by
    unfold callWith
    refine wpAny_bind (wpAny_holding (wpAny_mono args (fun a s₁ h₁ => wpAny_bind (wpAny_standAt ?_)) fun _ _ x => x))
    rw [show (backTo pos (starEach es fx.env)).any (·.1) = false from hp]
    rcases hf with ⟨T, rfl⟩ | ⟨i, rfl⟩
    · refine wpAny_bind (wpAny_pure ?_)
      exact wpAny_bind (wpAny_mono h₁ (fun r s₂ hr => wpAny_bind (wpAny_holding (wpAny_point (wpAny_pure hr)))) fun _ _ x => x)
    · refine wpAny_bind (wpAny_pure ?_)
      exact wpAny_bind (wpAny_mono h₁ (fun r s₂ hr => wpAny_bind (wpAny_holding (wpAny_point (wpAny_pure hr)))) fun _ _ x => x)
  exact tail
theorem T_callB {x : Str} {np pos : Pos} {es : List Expr} {Q : LV → Store → Prop} {f : Value} (ok' : CxOk cx) (e : nsIn (KF cx.w.params) mainGlobals x = some none) (hv : bootBuiltins x = some f) (hn : x ≠ "__name__") (hf : (∃ T, f = .type T) ∨ (∃ i, f = .builtin i))
    (h : TEs cx fx E d pos es m σ (CallP cx fx E d f m Q)) (hp : Plain fx pos es := by rfl) (hb : gloB fx x = true := by exact tT) : TE cx fx E d (.Call (.Name x np) es [] pos) m σ Q := fun A ρ s ok R =>
  wpAny_Call_ofName (wpAny_mono (T_bltin (d := d) (E := E) (p := np) (Q := fun l σ₁ => l = .con f ∧ σ₁ = σ) ok' e hv hn ⟨rfl, rfl⟩ hb A ρ s ok R) (fun v s₁ ⟨l, σ₁, ρ₁, X₁, R₁, r₁, e, e₁⟩ => by
    subst e; subst e₁
    obtain rfl : v = f := r₁
    exact wpAny_mono (callWB (ls := []) (first := []) hf ok R₁ .nil h hp) (fun _ _ z => VP.up X₁ z) fun _ _ x => x) fun _ _ x => x)
theorem OC_len {xs : List PyData} {l : LV} {Q : LV → Store → Prop} (hl : l = .dat (.list xs) ∨ l = .dat (.tuple xs) ∨ ∃ n, l = .loc n ∧ n < 1000 ∧ σ n = .list xs) (hz : xs.length < 2 ^ 62) (q : Q (.dat (.int xs.length)) σ) : OC cx fx E d (.builtin "len") [l] m σ Q := fun A ρ s vs ok R r => by
  cases r with
  | cons a r =>
  cases r
  rcases hl with rfl | rfl | ⟨n, rfl, hn, e⟩
  · obtain ⟨a, vs, rfl, ht, D⟩ := of_list a
    have := D.length
    refine call_len_list ht (by rw [← Array.length_toList, ← this]; lia) ?_
    rw [← Array.length_toList, ← this]
    exact VP.here R (dInt _ _) q _
  · obtain ⟨a, vs, rfl, ht, D⟩ := of_tup a
    have := D.length
    refine PyProof.Rows.len_tuple ht (by rw [← Array.length_toList, ← this]; lia) ?_
    rw [← Array.length_toList, ← this]
    exact VP.here R (dInt _ _) q _
  · obtain ⟨a', e', vs, k, g, D⟩ := named R e (hl := hn)
    obtain rfl := locEq e' a
    have := D.length
    refine call_len_list (items := vs.toArray) ⟨_, g, rfl, _, rfl⟩ (by simp; lia) ?_
    rw [List.size_toArray, ← this]
    exact VP.here R (dInt _ _) q _
end
section
variable {cx : Cx} {fx : Fx} {E : Value → Shared → Prop} {d : Nat} {m : Locals} {σ : Store} {ρ : RM} {s : Shared}
theorem dNoneH {h : Heap} : LRep ρ h (.dat .none) .none := ⟨[], .none, fun _ h => (nomatch h)⟩
theorem dIntH {h : Heap} (i : Int) (t : Tok) : LRep ρ h (.dat (.int i)) (.int i t) := ⟨[], .int i t, fun _ h => (nomatch h)⟩
theorem mutCarry (R : Rel cx fx ρ m σ s) {n : Nat} {a : Addr} {h' : Heap} (hn : ρ n = some a) (hs : Heap.SameBut a s.heap h') : Carry ρ s.heap ρ h' := by
  obtain ⟨ob, e, c, _⟩ := R.toRelC.thereT hn
  refine ⟨fun b o vs k e' c' _ => ⟨o, (hs.2 b fun q => ?_).trans e', rfl, rfl⟩, fun b o vs k e' _ q => ⟨q, o, (hs.2 b fun z => q n (z ▸ hn)).trans e', rfl, rfl⟩⟩
  rw [q, e] at e'; cases e'; exact c c'
/-- a named object has turned -/
theorem VP.mut {n : Nat} {a : Addr} {ao : AO} {h' : Heap} {t : Nat} {Q : LV → Store → Prop} {l : LV} {v : Value} (R : Rel cx fx ρ m σ s) (hn : ρ n = some a) (hnl : n < 1000) (hs : Heap.SameBut a s.heap h') (r : ORep cx.w ρ h' ao a) (rl : LRep ρ h' l v) (q : Q l (upd σ n ao)) :
    VP cx fx ρ m s Q v { s with heap := h', toks := t } := by
  obtain ⟨R', X⟩ := R.toRelC.mut (t := t) hn hnl hs r
  exact ⟨l, _, ρ, X, R.next R' X, rl, q⟩
theorem DReps.snoc {h : Heap} {ds : List PyData} {vs : List Value} {x : PyData} {v : Value} (r : DReps ρ h ds vs) (k : DRep ρ h x v) : DReps ρ h (ds ++ [x]) (vs ++ [v]) := by
  obtain ⟨as, r, f⟩ := r
  obtain ⟨bs, k, g⟩ := k
  have : ∀ {vs : List Value} {ds : List PyData} {as : List Addr}, ReadsAll h vs ds as → ReadsAll h (vs ++ [v]) (ds ++ [x]) (as ++ (bs ++ [])) := by
    intro vs
    induction vs with
    | nil => intro ds as r; cases r; show ReadsAll h [v] [x] (bs ++ []); exact .cons k .nil
    | cons w vs ih => intro ds as r; cases r with | cons h1 h2 => rw [List.append_assoc]; exact .cons h1 (ih h2)
  exact ⟨_, this r, fun b hb => by
    rcases List.mem_append.mp hb with hb | hb
    · exact f b hb
    · exact g b (by simpa using hb)⟩
theorem DReps.app {h : Heap} {ds es : List PyData} {vs us : List Value} (r : DReps ρ h ds vs) (k : DReps ρ h es us) : DReps ρ h (ds ++ es) (vs ++ us) := by
  obtain ⟨as, r, f⟩ := r
  obtain ⟨bs, k, g⟩ := k
  have : ∀ {vs : List Value} {ds : List PyData} {as : List Addr}, ReadsAll h vs ds as → ReadsAll h (vs ++ us) (ds ++ es) (as ++ bs) := by
    intro vs
    induction vs with
    | nil => intro ds as r; cases r; exact k
    | cons w vs ih => intro ds as r; cases r with | cons h1 h2 => rw [List.append_assoc]; exact .cons h1 (ih h2)
  exact ⟨_, this r, fun b hb => (List.mem_append.mp hb).elim (f b) (g b)⟩
theorem DReps.reverse {h : Heap} {ds : List PyData} {vs : List Value} (r : DReps ρ h ds vs) : DReps ρ h ds.reverse vs.reverse := by
  obtain ⟨as, r, f⟩ := r
  induction vs generalizing ds as with
  | nil => cases r; exact ⟨[], .nil, fun _ h => (nomatch h)⟩
  | cons v vs ih =>
    cases r with
    | cons h1 h2 =>
      rw [List.reverse_cons, List.reverse_cons]
      exact (ih _ h2 fun b hb => f b (List.mem_append_right _ hb)).snoc ⟨_, h1, fun b hb => f b (List.mem_append_left _ hb)⟩
theorem DReps.dropLast {h : Heap} {ds : List PyData} {vs : List Value} {x : PyData} (r : DReps ρ h (ds ++ [x]) vs) : ∃ us v, vs = us ++ [v] ∧ DReps ρ h ds us ∧ DRep ρ h x v := by
  have r' := r.reverse
  rw [List.reverse_append] at r'
  cases hv : vs.reverse with
  | nil =>
    obtain ⟨_, r', _⟩ := r'
    rw [hv] at r'; cases r'
  | cons v us =>
    rw [hv] at r'
    obtain ⟨as, r', f⟩ := r'
    cases r' with
    | cons h1 h2 =>
      refine ⟨us.reverse, v, ?_, ?_, ⟨_, h1, fun b hb => f b (List.mem_append_left _ hb)⟩⟩
      · rw [← List.reverse_reverse vs, hv, List.reverse_cons]
      · have := DReps.reverse (ρ := ρ) ⟨_, h2, fun b hb => f b (List.mem_append_right _ hb)⟩
        simpa using this
/-! methods of lists and dicts -/
noncomputable def KindOf : AO → String → Prop
  | .list _, T => T = "list"
  | .sdict _, T => T = "dict"
  | .tdict _, T => T = "dict"
  | .idict _, T => T = "dict"
  | _, _ => False
theorem kind_at {o : AO} {T : String} {a : Addr} (h : KindOf o T) (r : ORep cx.w ρ s.heap o a) : s.TypeIs (.ref a) T ∧ ∃ ob, s.heap.get? a = some ob ∧ ob.dict = none := by
  cases o with
  | list xs => subst h; obtain ⟨vs, k, e, _⟩ := r; exact ⟨⟨_, e, rfl⟩, _, e, rfl⟩
  | sdict D => subst h; obtain ⟨kvs, hd, _⟩ := r; exact ⟨hd.typeIs, let ⟨o, _, _, e, x, _⟩ := hd; ⟨o, e, x.2.1⟩⟩
  | tdict D => subst h; obtain ⟨kvs, hd, _⟩ := r; exact ⟨hd.typeIs, let ⟨o, _, _, e, x, _⟩ := hd; ⟨o, e, x.2.1⟩⟩
  | idict D => subst h; obtain ⟨kvs, hd, _⟩ := r; exact ⟨hd.typeIs, let ⟨o, _, _, e, x, _⟩ := hd; ⟨o, e, x.2.1⟩⟩
  | _ => exact h.elim
inductive BltP (cx : Cx) (fx : Fx) (E : Value → Shared → Prop) (d : Nat) (T id : String) (pos : Pos) (es : List Expr) (m : Locals) (Q : LV → Store → Prop) (l : LV) (σ : Store) : Prop where
  | mk (n : Nat) (e : l = .loc n) (hK : KindOf (σ n) T) (hlt : n < 1000) (h : TEs cx fx E d pos es m σ (CallM cx fx E d (.builtin id) n m Q))
theorem T_methB {o : Expr} {name : Str} {ap pos : Pos} {es : List Expr} {Q : LV → Store → Prop} {T id : String} (pa : PlainAttrs T) (slot : Slot T name id) (hty : typeOf (.builtin id) = pure (.type "method_descriptor"))
    (h : TE cx fx E d o m σ (BltP cx fx E d T id pos es m Q))
    (hp : Plain fx pos es := by rfl)
    (he : eval (.Call (.Attribute o name ap) es [] pos) fx.env = (do
      let ov ← eval o fx.env
      standAt ap.atName
      let (f, first) ← holding [ov] (getMethod ov name (do return (← importBound o fx.env).getD true))
      callWith pos f first (backTo pos (starEach es fx.env)) (backToKw pos (keywordEach [] fx.env))) := by rfl) : TE cx fx E d (.Call (.Attribute o name ap) es [] pos) m σ Q := fun A ρ s ok R =>
  methodCall_KW (wpAny_mono (h A ρ s ok R) (fun v s₁ ⟨l, σ₁, ρ₁, X₁, R₁, r₁, n, hl, hk, hlt, h₁⟩ => by
    subst hl
    obtain ⟨a, e, r⟩ := named R₁ (o := σ₁ n) rfl (fun q => by rw [q] at hk; exact hk) hlt
    obtain rfl := locEq e r₁
    obtain ⟨hT, ob, eo, hd⟩ := kind_at hk r
    refine getMethod_builtin hT pa slot hty (fun b q => by cases q; exact ⟨ob, eo, hd⟩) ?_
    exact wpAny_mono (callWB (ls := [.loc n]) (first := [.ref a]) (.inr ⟨_, rfl⟩) ok R₁ (.cons ⟨a, e, rfl⟩ .nil) h₁ hp) (fun _ _ z => VP.up X₁ z) fun _ _ x => x) fun _ _ x => x) he
theorem OC_append {n : Nat} {xs : List PyData} {x : PyData} {Q : LV → Store → Prop} (hn : σ n = .list xs) (hz : xs.length ≤ 1000000) (q : Q (.dat .none) (upd σ n (.list (xs ++ [x])))) (hl : n < 1000 := by decide) : OC cx fx E d (.builtin "list.append") [.loc n, .dat x] m σ Q := fun A ρ s vs ok R r => by
  cases r with
  | cons a r =>
  cases r with
  | cons b r =>
  cases r
  obtain ⟨a', e, us, k, g, D⟩ := named R hn (hl := hl)
  obtain rfl := locEq e a
  refine append_at (its := us.toArray) (n := k) g (fun h' hs' g' => ?_) (by rw [List.size_toArray, ← D.length]; exact Nat.le_trans hz (by decide))
  have C := mutCarry R e hs'
  refine VP.mut (ao := .list (xs ++ [x])) R e hl hs' ⟨us ++ [_], k + 1, by rw [g']; simp, (D.snoc b).carry C⟩ dNoneH q
theorem OC_pop {n : Nat} {xs : List PyData} {x : PyData} {Q : LV → Store → Prop} (hn : σ n = .list (xs ++ [x])) (hz : xs.length ≤ 1000000) (q : Q (.dat x) (upd σ n (.list xs))) (hl : n < 1000 := by decide) : OC cx fx E d (.builtin "list.pop") [.loc n] m σ Q := fun A ρ s vs ok R r => by
  cases r with
  | cons a r =>
  cases r
  obtain ⟨a', e, us, k, g, D⟩ := named R hn (hl := hl)
  obtain rfl := locEq e a
  obtain ⟨vs, v, rfl, D', dv⟩ := D.dropLast
  refine Copied.pop_at (its := (vs ++ [v]).toArray) (n := k) (y := v) g (by simp) (fun h' hs' g' => ?_) (by simp; have := D'.length; rw [← this]; exact Nat.le_trans (Nat.succ_le_succ hz) (by decide))
  have C := mutCarry R e hs'
  exact VP.mut (ao := .list xs) R e hl hs' ⟨vs, k + 1, by rw [g']; simp, D'.carry C⟩ (show LRep ρ h' (.dat x) v from DRep.carry C dv) q
theorem OC_reverse {n : Nat} {xs : List PyData} {Q : LV → Store → Prop} (hn : σ n = .list xs) (hz : xs.length ≤ 1000000) (q : Q (.dat .none) (upd σ n (.list xs.reverse))) (hl : n < 1000 := by decide) : OC cx fx E d (.builtin "list.reverse") [.loc n] m σ Q := fun A ρ s vs ok R r => by
  cases r with
  | cons a r =>
  cases r
  obtain ⟨a', e, us, k, g, D⟩ := named R hn (hl := hl)
  obtain rfl := locEq e a
  refine call_meets PySem.F.slot_list_reverse ⟨_, g, rfl⟩ PySem.F.entry_list_reverse (PySem.F.args_list_reverse_1 _) (PySem.AutoListH.list_reverse_list_0 a' us.toArray k (by rw [List.size_toArray, ← D.length]; exact Nat.le_trans hz (by decide))) ⟨g, ?_⟩
  have hs' : Heap.SameBut a' s.heap (s.heap.update a' (Obj.mapSeq fun x => x.reverse)) := Heap.SameBut.update ..
  have C := mutCarry R e hs'
  refine VP.mut (ao := .list xs.reverse) R e hl hs' ⟨us.reverse, k, ?_, D.reverse.carry C⟩ dNoneH q
  rw [Heap.get?_update_self _ g rfl]
  simp [Obj.mapSeq]
end
section
variable {cx : Cx} {fx : Fx} {E : Value → Shared → Prop} {d : Nat} {m : Locals} {σ : Store} {ρ : RM} {s : Shared}
/-! dicts -/
noncomputable def dget {K V : Type} [DecidableEq K] (D : List (K × V)) (x : K) : Option V := (D.find? fun p => decide (p.1 = x)).map (·.2)
theorem dget_nil {K V : Type} [DecidableEq K] (x : K) : dget ([] : List (K × V)) x = none := rfl
theorem dget_cons {K V : Type} [DecidableEq K] (p : K × V) (D : List (K × V)) (x : K) : dget (p :: D) x = if p.1 = x then some p.2 else dget D x := by
  unfold dget
  by_cases h : p.1 = x <;> simp [h]
theorem srep_get : ∀ {D : List (Str × Int)} {kvs : List (Str × Value)} {x : Str}, SRep D kvs → (∃ i t, dget D x = some i ∧ valueAt kvs x = some (.int i t)) ∨ (dget D x = none ∧ valueAt kvs x = none)
  | [], [], _, _ => .inr ⟨rfl, rfl⟩
  | q :: D, p :: ps, x, ⟨e, ⟨t, et⟩, r⟩ => by
    rw [dget_cons]
    have : valueAt (p :: ps) x = if p.1 = x then some p.2 else valueAt ps x := dget_cons p ps x
    rw [this, e]
    by_cases h : q.1 = x
    · rw [if_pos h, if_pos h]; exact .inl ⟨_, t, rfl, by rw [et]⟩
    · rw [if_neg h, if_neg h]; exact srep_get r
  | [], _ :: _, _, r => r.elim
  | _ :: _, [], _, r => r.elim
theorem irep_get : ∀ {D : List (Int × Bool)} {kvs : List (Int × Value)} {x : Int}, IRep D kvs → (∃ i, dget D x = some i ∧ valueAt kvs x = some (.bool i)) ∨ (dget D x = none ∧ valueAt kvs x = none)
  | [], [], _, _ => .inr ⟨rfl, rfl⟩
  | q :: D, p :: ps, x, ⟨e, et, r⟩ => by
    rw [dget_cons]
    have : valueAt (p :: ps) x = if p.1 = x then some p.2 else valueAt ps x := dget_cons p ps x
    rw [this, e]
    by_cases h : q.1 = x
    · rw [if_pos h, if_pos h]; exact .inl ⟨_, rfl, by rw [et]⟩
    · rw [if_neg h, if_neg h]; exact irep_get r
  | [], _ :: _, _, r => r.elim
  | _ :: _, [], _, r => r.elim
theorem trep_get : ∀ {D : List (List Int × Int)} {kvs : List (List Int × Addr × Value)} {x : List Int}, TRep D kvs → (∃ i t, dget D x = some i ∧ ((atKey kvs x).map (·.2)) = some (.int i t)) ∨ (dget D x = none ∧ ((atKey kvs x).map (·.2)) = none)
  | [], [], _, _ => .inr ⟨rfl, rfl⟩
  | q :: D, p :: ps, x, ⟨e, ⟨t, et⟩, r⟩ => by
    rw [dget_cons]
    have : atKey (p :: ps) x = if p.1 = x then some p.2 else atKey ps x := dget_cons p ps x
    rw [this, e]
    by_cases h : q.1 = x
    · rw [if_pos h, if_pos h]; exact .inl ⟨_, t, rfl, by simp [et]⟩
    · rw [if_neg h, if_neg h]; exact trep_get r
  | [], _ :: _, _, r => r.elim
  | _ :: _, [], _, r => r.elim
theorem srep_snoc {x : Str} {i : Int} {t : Tok} : ∀ {D : List (Str × Int)} {kvs : List (Str × Value)}, SRep D kvs → SRep (D ++ [(x, i)]) (kvs ++ [(x, .int i t)])
  | [], [], _ => ⟨rfl, ⟨t, rfl⟩, trivial⟩
  | _ :: _, _ :: _, ⟨a, b, r⟩ => ⟨a, b, srep_snoc r⟩
  | [], _ :: _, r => r.elim
  | _ :: _, [], r => r.elim
theorem irep_snoc {x : Int} {i : Bool} : ∀ {D : List (Int × Bool)} {kvs : List (Int × Value)}, IRep D kvs → IRep (D ++ [(x, i)]) (kvs ++ [(x, .bool i)])
  | [], [], _ => ⟨rfl, rfl, trivial⟩
  | _ :: _, _ :: _, ⟨a, b, r⟩ => ⟨a, b, irep_snoc r⟩
  | [], _ :: _, r => r.elim
  | _ :: _, [], r => r.elim
theorem trep_snoc {x : List Int} {i : Int} {t : Tok} {a : Addr} : ∀ {D : List (List Int × Int)} {kvs : List (List Int × Addr × Value)}, TRep D kvs → TRep (D ++ [(x, i)]) (kvs ++ [(x, a, .int i t)])
  | [], [], _ => ⟨rfl, ⟨t, rfl⟩, trivial⟩
  | _ :: _, _ :: _, ⟨a, b, r⟩ => ⟨a, b, trep_snoc r⟩
  | [], _ :: _, r => r.elim
  | _ :: _, [], r => r.elim
theorem srep_len : ∀ {D : List (Str × Int)} {kvs : List (Str × Value)}, SRep D kvs → kvs.length = D.length
  | [], [], _ => rfl
  | _ :: _, _ :: _, ⟨_, _, r⟩ => congrArg Nat.succ (srep_len r)
  | [], _ :: _, r => r.elim
  | _ :: _, [], r => r.elim
theorem irep_len : ∀ {D : List (Int × Bool)} {kvs : List (Int × Value)}, IRep D kvs → kvs.length = D.length
  | [], [], _ => rfl
  | _ :: _, _ :: _, ⟨_, _, r⟩ => congrArg Nat.succ (irep_len r)
  | [], _ :: _, r => r.elim
  | _ :: _, [], r => r.elim
theorem trep_len : ∀ {D : List (List Int × Int)} {kvs : List (List Int × Addr × Value)}, TRep D kvs → kvs.length = D.length
  | [], [], _ => rfl
  | _ :: _, _ :: _, ⟨_, _, r⟩ => congrArg Nat.succ (trep_len r)
  | [], _ :: _, r => r.elim
  | _ :: _, [], r => r.elim
theorem stored_new {K : Type} [DecidableEq K] {kvs : List (K × Value)} {x : K} {v : Value} (h : valueAt kvs x = none) : stored kvs x v = kvs ++ [(x, v)] := by
  unfold stored
  rw [if_neg]
  intro h'
  obtain ⟨p, hp, e⟩ := List.any_eq_true.mp h'
  unfold valueAt at h
  rw [Option.map_eq_none_iff, List.find?_eq_none] at h
  exact h p hp e
theorem off_sys (ok : CxOk cx) {fs : List Env} (R : RelC cx fs ρ σ s) {n : Nat} {a : Addr} (e : ρ n = some a) (hl : n < 1000) : (a == sysModules) = false := by
  cases q : (a == sysModules) with
  | false => rfl
  | true =>
    have e1 : a = sysModules := eq_of_beq q
    have := (R.st n a hl e).1
    have k : ∃ o, (KF cx.w.params).lookup 1 = some o := ⟨PySem.W.boot_o_1 cx.w.params, by kernel_rfl⟩
    obtain ⟨o, k⟩ := k
    have z := ok.K _ _ k
    rw [e1] at this
    have this' : cx.base.get? 1 = none := this
    rw [z] at this'; cases this'
theorem isStr_of {x : Str} {t : Tok} : (strKind PW cx.w).is x (.str x t) = true := by
  show Value.isStrOf x (.str x t) = true
  simp [Value.isStrOf]
theorem isInt_of {x : Int} {t : Tok} : (intKind PW cx.w).is x (.int x t) = true := by
  show Value.isInt x (.int x t) = true
  simp [Value.isInt]
theorem tupKey {a : Addr} {vs : Array Value} {ks : List Int} {h : Heap} (ht : IsTup h a vs) (D : DReps ρ h (ks.map .int) vs.toList) : (tupleKind (intKind PW cx.w)).is h ks a := by
  obtain ⟨o, e, c, n, dd⟩ := ht
  refine ⟨o, vs, n, e, c, dd, ?_⟩
  obtain ⟨as, r, _⟩ := D
  have : ∀ {ks : List Int} {vs : List Value} {as : List Addr}, ReadsAll h vs (ks.map .int) as → ItemsAre (intKind PW cx.w) ks vs := by
    intro ks
    induction ks with
    | nil => intro vs as r; cases r; exact .nil
    | cons k ks ih =>
      intro vs as r
      cases r with
      | cons h1 h2 => cases h1; exact .cons isInt_of (ih h2)
  exact this r
theorem OC_getS (ok' : CxOk cx) {n : Nat} {D : List (Str × Int)} {x : Str} {i : Int} {Q : LV → Store → Prop} (hn : σ n = .sdict D) (q : Q (.dat (.int ((dget D x).getD i))) σ) (hl : n < 1000 := by decide) : OC cx fx E d (.builtin "dict.get") [.loc n, .dat (.str x), .dat (.int i)] m σ Q := fun A ρ s vs ok R r => by
  cases r with
  | cons a r =>
  cases r with
  | cons b r =>
  cases r with
  | cons c r =>
  cases r
  obtain ⟨a', e, kvs, hd, S⟩ := named R hn (hl := hl)
  obtain rfl := locEq e a
  obtain ⟨t, rfl⟩ := of_str b
  obtain ⟨u, rfl⟩ := of_int c
  refine call_meetsIn PySem.F.slot_dict_get hd.typeIs PySem.F.entry_dict_get (PySem.F.args_dict_get_3 _ _ _) (meets_dict_get_default (strKind PW cx.w) a' isStr_of (off_sys ok' R.toRelC e hl) (.int i u)) ⟨valueAt kvs, hd.mapOf, ?_⟩
  rcases srep_get (x := x) S with ⟨j, w, e1, e2⟩ | ⟨e1, e2⟩
  · rw [e2]; rw [e1] at q; exact VP.here R (dInt _ _) q _
  · rw [e2]; rw [e1] at q; exact VP.here R (dInt _ _) q _
theorem OC_getT (ok' : CxOk cx) {n : Nat} {D : List (List Int × Int)} {x : List Int} {i : Int} {Q : LV → Store → Prop} (hn : σ n = .tdict D) (q : Q (.dat (.int ((dget D x).getD i))) σ) (hl : n < 1000 := by decide) : OC cx fx E d (.builtin "dict.get") [.loc n, .dat (.tuple (x.map .int)), .dat (.int i)] m σ Q := fun A ρ s vs ok R r => by
  cases r with
  | cons a r =>
  cases r with
  | cons b r =>
  cases r with
  | cons c r =>
  cases r
  obtain ⟨a', e, kvs, hd, S⟩ := named R hn (hl := hl)
  obtain rfl := locEq e a
  obtain ⟨ka, us, rfl, ht, D'⟩ := of_tup b
  obtain ⟨u, rfl⟩ := of_int c
  refine call_meetsIn PySem.F.slot_dict_get hd.typeIs PySem.F.entry_dict_get (PySem.F.args_dict_get_3 _ _ _) (meetsH_dict_get_default (tupleKind (intKind PW cx.w)) a' ka (off_sys ok' R.toRelC e hl) (.int i u)) ⟨(by have := ok.units; show A.units + 1 < 9900; lia), x, kvs, tupKey ht D', hd, ?_⟩
  rcases trep_get (x := x) S with ⟨j, w, e1, e2⟩ | ⟨e1, e2⟩
  · rw [e2]; rw [e1] at q; exact VP.here R (dInt _ _) q _
  · rw [e2]; rw [e1] at q; exact VP.here R (dInt _ _) q _
/-! storing by a subscript -/
noncomputable def OU (cx : Cx) (fx : Fx) (E : Value → Shared → Prop) (d : Nat) (o i v : LV) (m : Locals) (σ : Store) (Q : Store → Prop) : Prop :=
  ∀ A ρ s ov iv vv, AOk A d fx → Rel cx fx ρ m σ s → LRep ρ s.heap o ov → LRep ρ s.heap i iv → LRep ρ s.heap v vv → wpAny (model PW cx.w) A (setItem ov iv vv) (fun _ s' => ∃ σ' ρ', Ext allN noS ρ s.heap ρ' s'.heap ∧ Rel cx fx ρ' m σ' s' ∧ Q σ') E s
theorem X_sub {o i value : Expr} {p' p : Pos} {Q : Fl → Locals → Store → Prop} (h : TE cx fx E d value m σ (fun lv σ₁ => TE cx fx E d o m σ₁ (fun lo σ₂ => TE cx fx E d i m σ₂ (fun li σ₃ => OU cx fx E d lo li lv m σ₃ (fun σ₄ => Q .next m σ₄)))))
    (hs : swapsWith value (some (.Subscript o i p')) p.line fx.env = pure false := by rfl) : TX cx fx E d (.Assign [.Subscript o i p'] value p) m σ Q := fun A ρ s ok R =>
  wpAny_Assign_Subscript (wpAny_mono (h A ρ s ok R) (fun v s₁ ⟨lv, σ₁, ρ₁, X₁, R₁, r₁, h₁⟩ => wpAny_mono (h₁ A ρ₁ s₁ ok R₁) (fun ov s₂ ⟨lo, σ₂, ρ₂, X₂, R₂, r₂, h₂⟩ => wpAny_mono (h₂ A ρ₂ s₂ ok R₂) (fun iv s₃ ⟨li, σ₃, ρ₃, X₃, R₃, r₃, h₃⟩ =>
    wpAny_mono (h₃ A ρ₃ s₃ ov iv v ok R₃ (r₂.ext R₂ X₃) r₃ (r₁.ext R₁ (X₂.trans X₃))) (fun _ s₄ ⟨σ₄, ρ₄, X₄, R₄, q⟩ => ⟨.next, m, σ₄, ρ₄, (X₁.trans (X₂.trans (X₃.trans X₄))).st, R₄, trivial, q⟩) fun _ _ x => x) fun _ _ x => x) fun _ _ x => x) fun _ _ x => x) hs
theorem OU.mut {n : Nat} {a : Addr} {ao : AO} {h' : Heap} {t : Nat} {Q : Store → Prop} (R : Rel cx fx ρ m σ s) (hn : ρ n = some a) (hnl : n < 1000) (hs : Heap.SameBut a s.heap h') (r : ORep cx.w ρ h' ao a) (q : Q (upd σ n ao)) :
    ∃ σ' ρ', Ext allN noS ρ s.heap ρ' h' ∧ Rel cx fx ρ' m σ' { s with heap := h', toks := t } ∧ Q σ' := by
  obtain ⟨R', X⟩ := R.toRelC.mut (t := t) hn hnl hs r
  exact ⟨_, ρ, X, R.next R' X, q⟩
theorem OU_S {n : Nat} {D : List (Str × Int)} {x : Str} {i : Int} {Q : Store → Prop} (hn : σ n = .sdict D) (hm : dget D x = none) (hz : D.length ≤ 1000000) (q : Q (upd σ n (.sdict (D ++ [(x, i)])))) (hl : n < 1000 := by decide) : OU cx fx E d (.loc n) (.dat (.str x)) (.dat (.int i)) m σ Q := fun A ρ s ov iv vv ok R ro ri rv => by
  obtain ⟨a', e, kvs, hd, S⟩ := named R hn (hl := hl)
  obtain rfl := locEq e ro
  obtain ⟨t, rfl⟩ := of_str ri
  obtain ⟨u, rfl⟩ := of_int rv
  refine wpAny_setItem_pairs (knd := strKind PW cx.w) (k := x) isStr_of hd (fun h' hd' hs' => ?_) (by rw [srep_len S]; exact Nat.le_trans hz (by decide))
  rcases srep_get (x := x) S with ⟨j, w, e1, e2⟩ | ⟨e1, e2⟩
  · rw [hm] at e1; cases e1
  · rw [stored_new e2] at hd'
    exact OU.mut (ao := .sdict (D ++ [(x, i)])) R e hl hs' ⟨_, hd', srep_snoc S⟩ q
theorem OU_I {n : Nat} {D : List (Int × Bool)} {x : Int} {i : Bool} {Q : Store → Prop} (hn : σ n = .idict D) (hm : dget D x = none) (hz : D.length ≤ 1000000) (q : Q (upd σ n (.idict (D ++ [(x, i)])))) (hl : n < 1000 := by decide) : OU cx fx E d (.loc n) (.dat (.int x)) (.dat (.bool i)) m σ Q := fun A ρ s ov iv vv ok R ro ri rv => by
  obtain ⟨a', e, kvs, hd, S⟩ := named R hn (hl := hl)
  obtain rfl := locEq e ro
  obtain ⟨t, rfl⟩ := of_int ri
  obtain rfl := of_bool rv
  refine wpAny_setItem_pairs (knd := intKind PW cx.w) (k := x) isInt_of hd (fun h' hd' hs' => ?_) (by rw [irep_len S]; exact Nat.le_trans hz (by decide))
  rcases irep_get (x := x) S with ⟨j, e1, e2⟩ | ⟨e1, e2⟩
  · rw [hm] at e1; cases e1
  · rw [stored_new e2] at hd'
    exact OU.mut (ao := .idict (D ++ [(x, i)])) R e hl hs' ⟨_, hd', irep_snoc S⟩ q
theorem OU_T {n : Nat} {D : List (List Int × Int)} {x : List Int} {i : Int} {Q : Store → Prop} (hn : σ n = .tdict D) (hm : dget D x = none) (hz : D.length ≤ 1000000) (q : Q (upd σ n (.tdict (D ++ [(x, i)])))) (hl : n < 1000 := by decide) : OU cx fx E d (.loc n) (.dat (.tuple (x.map .int))) (.dat (.int i)) m σ Q := fun A ρ s ov iv vv ok R ro ri rv => by
  obtain ⟨a', e, kvs, hd, S⟩ := named R hn (hl := hl)
  obtain rfl := locEq e ro
  obtain ⟨ka, us, rfl, ht, D'⟩ := of_tup ri
  obtain ⟨u, rfl⟩ := of_int rv
  refine wpAny_setItem_heap (knd := tupleKind (intKind PW cx.w)) (k := x) (by have := ok.units; show A.units + 1 < 9900; lia) (tupKey ht D') hd (fun h' hd' hs' => ?_) (by rw [trep_len S]; exact Nat.le_trans hz (by decide))
  rcases trep_get (x := x) S with ⟨j, w, e1, e2⟩ | ⟨e1, e2⟩
  · rw [hm] at e1; cases e1
  · rw [storedH_new (Option.map_eq_none_iff.mp e2)] at hd'
    exact OU.mut (ao := .tdict (D ++ [(x, i)])) R e hl hs' ⟨_, hd', trep_snoc S⟩ q
end
section
variable {cx : Cx} {fx : Fx} {E : Value → Shared → Prop} {d : Nat} {m : Locals} {σ : Store} {ρ : RM} {s : Shared}
theorem intsAre {h : Heap} {ks : List Int} {vs : List Value} (D : DReps ρ h (ks.map .int) vs) : IntsAre vs ks := by
  obtain ⟨as, r, _⟩ := D
  induction ks generalizing vs as with
  | nil => cases r; exact .nil
  | cons k ks ih => cases r with | cons h1 h2 => cases h1; exact .cons _ _ (ih _ h2 (by assumption))
theorem O_inT {k : Int} {ks : List Int} {Q : LV → Store → Prop} (q : Q (.dat (.bool (ks.any (· == k)))) σ) : O2 cx fx E d (compareOp .In) (.dat (.int k)) (.dat (.tuple (ks.map .int))) m σ Q := fun A ρ s a b ok R ra rb => by
  obtain ⟨t, rfl⟩ := of_int ra
  obtain ⟨a, vs, rfl, ht, D⟩ := of_tup rb
  exact in_tuple_ints ht (intsAre D) (VP.now R (dBool _) q)
theorem O_inL {k : Int} {ks : List Int} {Q : LV → Store → Prop} (q : Q (.dat (.bool (ks.any (· == k)))) σ) : O2 cx fx E d (compareOp .In) (.dat (.int k)) (.dat (.list (ks.map .int))) m σ Q := fun A ρ s a b ok R ra rb => by
  obtain ⟨t, rfl⟩ := of_int ra
  obtain ⟨a, vs, rfl, ht, D⟩ := of_list rb
  exact in_list_ints (vs := vs.toList) ht (intsAre D) (VP.now R (dBool _) q)
theorem O_notinL {k : Int} {ks : List Int} {Q : LV → Store → Prop} (q : Q (.dat (.bool (!ks.any (· == k)))) σ) : O2 cx fx E d (compareOp .NotIn) (.dat (.int k)) (.dat (.list (ks.map .int))) m σ Q := fun A ρ s a b ok R ra rb => by
  obtain ⟨t, rfl⟩ := of_int ra
  obtain ⟨a, vs, rfl, ht, D⟩ := of_list rb
  exact notin_list_ints (vs := vs.toList) ht (intsAre D) (VP.now R (dBool _) q)
theorem O_notinI (ok' : CxOk cx) {k : Int} {n : Nat} {D : List (Int × Bool)} {Q : LV → Store → Prop} (hn : σ n = .idict D) (q : Q (.dat (.bool (!(dget D k).isSome))) σ) (hl : n < 1000 := by decide) : O2 cx fx E d (compareOp .NotIn) (.dat (.int k)) (.loc n) m σ Q := fun A ρ s a b ok R ra rb => by
  obtain ⟨t, rfl⟩ := of_int ra
  obtain ⟨a', e, kvs, hd, S⟩ := named R hn (hl := hl)
  obtain rfl := locEq e rb
  refine wpAny_notIn_of (knd := intKind PW cx.w) (k := k) isInt_of (off_sys ok' R.toRelC e hl) hd.mapOf ?_
  rcases irep_get (x := k) S with ⟨j, e1, e2⟩ | ⟨e1, e2⟩
  · rw [e2]; rw [e1] at q; exact VP.here R (dBool _) q _
  · rw [e2]; rw [e1] at q; exact VP.here R (dBool _) q _
theorem O_addT {xs ys : List PyData} {Q : LV → Store → Prop} (hz : xs.length + ys.length ≤ 1000) (q : Q (.dat (.tuple (xs ++ ys))) σ) : O2 cx fx E d (binaryOp .Add) (.dat (.tuple xs)) (.dat (.tuple ys)) m σ Q := fun A ρ s a b ok R ra rb => by
  have ra' := ra
  have rb' := rb
  obtain ⟨t, vs, rfl, ht, D⟩ := of_tup ra
  obtain ⟨b, ws, rfl, hb, D'⟩ := of_tup rb
  have l1 := D.length
  have l2 := D'.length
  obtain ⟨⟨cls, dd, data, sl⟩, ho, hc, n, hd⟩ := id ht
  obtain ⟨⟨cls2, dd2, data2, sl2⟩, ho2, hc2, n2, hd2⟩ := id hb
  simp only at hc hd hc2 hd2
  subst hc hd hc2 hd2
  by_cases hv : vs.isEmpty = true
  · have e : xs = [] := List.eq_nil_of_length_eq_zero (by rw [l1]; simpa using hv)
    subst e
    exact concat_meets ⟨_, ho, rfl⟩ ⟨_, ho2, rfl⟩ noFill_tuple_add seq_tuple_add PySem.F.slot_tuple_add PySem.F.entry_tuple_add (PySem.F.args_tuple_add_2 _ _)
      (tuple_addW0 t b vs ws n n2 dd dd2 sl sl2 hv) ⟨ho, ho2, VP.now R rb' q⟩
  · by_cases hw : ws.isEmpty = true
    · have e : ys = [] := List.eq_nil_of_length_eq_zero (by rw [l2]; simpa using hw)
      subst e
      rw [List.append_nil] at q
      exact concat_meets ⟨_, ho, rfl⟩ ⟨_, ho2, rfl⟩ noFill_tuple_add seq_tuple_add PySem.F.slot_tuple_add PySem.F.entry_tuple_add (PySem.F.args_tuple_add_2 _ _)
        (tuple_addW1 t b vs ws n n2 dd dd2 sl sl2 hv hw) ⟨ho, ho2, VP.now R ra' q⟩
    · refine concat_meets ⟨_, ho, rfl⟩ ⟨_, ho2, rfl⟩ noFill_tuple_add seq_tuple_add PySem.F.slot_tuple_add PySem.F.entry_tuple_add (PySem.F.args_tuple_add_2 _ _)
        (tuple_addW2 t b vs ws n n2 dd dd2 sl sl2 hv hw (by rw [← Array.length_toList, ← Array.length_toList, ← l1, ← l2]; exact Nat.le_trans hz (by decide))) ⟨ho, ho2, ?_⟩
      have := newSeq (cls := "tuple") (ds := xs ++ ys) (vs := vs.toList ++ ws.toList) (Q := Q) R (D.app D') (.inl ⟨rfl, q⟩)
      have e : (vs.toList ++ ws.toList).toArray = vs ++ ws := by simp
      rw [e] at this
      exact this
theorem O_neN {n : Nat} {xs : List PyData} {y : PyData} {Q : LV → Store → Prop} (hn : σ n = .list xs) (hx : SeqAt.shaped (.list xs) = true) (hy : SeqAt.shaped y = true) (q : Q (.dat (.bool (!PyData.eqv (.list xs) y))) σ) (hl : n < 1000 := by decide) : O2 cx fx E d (compareOp .NotEq) (.loc n) (.dat y) m σ Q := fun A ρ s a b ok R ra rb => by
  obtain ⟨a', e, us, k, g, D⟩ := named R hn (hl := hl)
  obtain rfl := locEq e ra
  obtain ⟨as, rd, _⟩ := D
  obtain ⟨bs, rb, _⟩ := rb
  exact ne_dataH (.list g rfl rfl (by simpa using rd)) rb hx hy (by have := ok.units; show _ < 9900; lia) (VP.now R (dBool _) q)
theorem OT_list {n : Nat} {xs : List PyData} {Q : Bool → Store → Prop} (hn : σ n = .list xs) (hz : xs.length ≤ 1000000) (q : Q (!xs.isEmpty) σ) (hl : n < 1000 := by decide) : OT cx fx E d (.loc n) m σ Q := fun A ρ s a ok R ra => by
  obtain ⟨a', e, us, k, g, D⟩ := named R hn (hl := hl)
  obtain rfl := locEq e ra
  have := D.length
  refine wpAny_truthy_list (items := us.toArray) ⟨_, g, rfl, _, rfl⟩ (by simp; lia) ?_
  have e' : us.toArray.isEmpty = xs.isEmpty := by
    cases us with
    | nil => rw [List.eq_nil_of_length_eq_zero this]; rfl
    | cons u us => cases xs with | nil => cases this | cons _ _ => rfl
  rw [e']
  exact ⟨σ, ρ, .refl _ _, R.toks _, q⟩
inductive NegP (Q : LV → Store → Prop) (l : LV) (σ : Store) : Prop where
  | mk (i : Int) (e : l = .dat (.int i)) (q : Q (.dat (.int (-i))) σ)
theorem T_neg {x : Expr} {p : Pos} {Q : LV → Store → Prop} (h : TE cx fx E d x m σ (NegP Q)) : TE cx fx E d (.UnaryOp .USub x p) m σ Q := fun A ρ s ok R =>
  wpAny_UnaryOp (wpAny_mono (h A ρ s ok R) (fun v s₁ ⟨l, σ₁, ρ₁, X₁, R₁, r₁, i, e, q⟩ => by
    subst e
    obtain ⟨t, rfl⟩ := of_int r₁
    exact neg_int (VP.up X₁ (VP.here R₁ (dInt _ _) q _))) fun _ _ x => x)
theorem T_and1 {x : Expr} {p : Pos} {Q : LV → Store → Prop} (h : TE cx fx E d x m σ Q) {o : BoolOp} : TE cx fx E d (.BoolOp o [x] p) m σ Q := fun A ρ s ok R => BoolOp_one (h A ρ s ok R)
theorem T_andv {x y : Expr} {r : List Expr} {p : Pos} {Q : LV → Store → Prop} (h : TE cx fx E d x m σ (fun l σ₁ => ∃ b, l = .dat (.bool b) ∧ (b = true → TE cx fx E d (.BoolOp .And (y :: r) p) m σ₁ Q) ∧ (b = false → Q (.dat (.bool false)) σ₁))) : TE cx fx E d (.BoolOp .And (x :: y :: r) p) m σ Q := fun A ρ s ok R =>
  BoolOp_and (wpAny_mono (h A ρ s ok R) (fun v s₁ ⟨l, σ₁, ρ₁, X₁, R₁, r₁, b, e, h₁, h₂⟩ => by
    subst e
    obtain rfl := of_bool r₁
    refine wpAny_truthy_bool ?_
    cases b with
    | true => exact wpAny_mono (h₁ rfl A ρ₁ s₁ ok R₁) (fun _ _ z => VP.up X₁ z) fun _ _ x => x
    | false => exact VP.up X₁ (VP.now R₁ (dBool _) (h₂ rfl))) fun _ _ x => x)
theorem T_orv {x y : Expr} {r : List Expr} {p : Pos} {Q : LV → Store → Prop} (h : TE cx fx E d x m σ (fun l σ₁ => ∃ b, l = .dat (.bool b) ∧ (b = false → TE cx fx E d (.BoolOp .Or (y :: r) p) m σ₁ Q) ∧ (b = true → Q (.dat (.bool true)) σ₁))) : TE cx fx E d (.BoolOp .Or (x :: y :: r) p) m σ Q := fun A ρ s ok R =>
  BoolOp_or (wpAny_mono (h A ρ s ok R) (fun v s₁ ⟨l, σ₁, ρ₁, X₁, R₁, r₁, b, e, h₁, h₂⟩ => by
    subst e
    obtain rfl := of_bool r₁
    refine wpAny_truthy_bool ?_
    cases b with
    | false => exact wpAny_mono (h₁ rfl A ρ₁ s₁ ok R₁) (fun _ _ z => VP.up X₁ z) fun _ _ x => x
    | true => exact VP.up X₁ (VP.now R₁ (dBool _) (h₂ rfl))) fun _ _ x => x)
theorem OC_abs {i : Int} {Q : LV → Store → Prop} (q : Q (.dat (.int (if i < 0 then -i else i))) σ) : OC cx fx E d (.builtin "abs") [.dat (.int i)] m σ Q := fun A ρ s vs ok R r => by
  cases r with
  | cons a r =>
  cases r
  obtain ⟨t, rfl⟩ := of_int a
  exact call_abs_int fun u tk => VP.here R (dInt _ _) q _
theorem OC_tupT {xs : List PyData} {Q : LV → Store → Prop} (q : Q (.dat (.tuple xs)) σ) : OC cx fx E d (.type "tuple") [.dat (.tuple xs)] m σ Q := fun A ρ s vs ok R r => by
  cases r with
  | cons a r =>
  cases r
  have a' := a
  obtain ⟨t, vs, rfl, ht, D⟩ := of_tup a
  exact call_tuple_same ht (VP.now R a' q)
theorem OC_isstrY {x : Str} {Q : LV → Store → Prop} (q : Q (.dat (.bool true)) σ) : OC cx fx E d (.builtin "isinstance") [.dat (.str x), .con (.type "str")] m σ Q := fun A ρ s vs ok R r => by
  cases r with
  | cons a r =>
  cases r with
  | cons b r =>
  cases r
  obtain ⟨t, rfl⟩ := of_str a
  have e : _ = Value.type "str" := b
  subst e
  exact IsiPair.str_str (VP.now R (dBool _) q)
theorem OC_isstrN {xs : List PyData} {Q : LV → Store → Prop} (q : Q (.dat (.bool false)) σ) : OC cx fx E d (.builtin "isinstance") [.dat (.tuple xs), .con (.type "str")] m σ Q := fun A ρ s vs ok R r => by
  cases r with
  | cons a r =>
  cases r with
  | cons b r =>
  cases r
  obtain ⟨t, vs, rfl, ht, D⟩ := of_tup a
  have e : _ = Value.type "str" := b
  subst e
  obtain ⟨o, ho, hc, _⟩ := ht
  exact IsiPair.tuple_str ho hc (VP.here R (dBool _) q _)
end
section
variable {cx : Cx} {fx : Fx} {E : Value → Shared → Prop} {d : Nat} {m : Locals} {σ : Store} {ρ : RM} {s : Shared}
theorem Rel.keeps (R : Rel cx fx ρ m σ s) {h' : Heap} (t : Nat) (k : ∀ b o, s.heap.get? b = some o → h'.get? b = some o) : Rel cx fx ρ m σ { s with heap := h', toks := t } ∧ Ext allN noS ρ s.heap ρ h' := by
  have C : Carry ρ s.heap ρ h' := ⟨fun a o vs k' e _ d => ⟨o, k a o e, rfl, rfl⟩, fun a o vs k' e d q => ⟨q, o, k a o e, rfl, rfl⟩⟩
  have X : Ext allN noS ρ s.heap ρ h' := ⟨fun _ _ _ e => e, fun _ _ e => .inl e, fun a o e _ _ => k a o e, fun a o e => ⟨o, k a o e⟩⟩
  have R' : RelC cx fx.fs ρ σ { s with heap := h', toks := t } := ⟨fun b o e => k b o (R.base b o e), fun n a hn e => by
    obtain ⟨x, y, z⟩ := R.st n a hn e
    obtain ⟨ob, q, _⟩ := z.cls
    exact ⟨x, y, z.carry C (fun _ _ _ q => q) ((k a ob q).trans q.symm)⟩, fun n a hn e => let ⟨o, q, r⟩ := R.hi n a hn e; ⟨o, k a o q, r⟩, R.dom, R.inj, ff_on R.ff fun f hf b o hb ho hd => ⟨o, k b o ho, hd⟩, R.gens, R.os⟩
  exact ⟨R.next R' X, X⟩
theorem DReps.set {h : Heap} {x : PyData} {v : Value} (k : DRep ρ h x v) : ∀ {ds : List PyData} {vs : List Value} {j : Nat}, DReps ρ h ds vs → DReps ρ h (ds.set j x) (vs.set j v) := by
  have one : ∀ {d' : PyData} {ds : List PyData} {v' : Value} {vs : List Value}, DRep ρ h d' v' → DReps ρ h ds vs → DReps ρ h (d' :: ds) (v' :: vs) := by
    rintro d' ds v' vs ⟨as, r, f⟩ ⟨bs, r', f'⟩
    exact ⟨as ++ bs, .cons r r', fun b hb => (List.mem_append.mp hb).elim (f b) (f' b)⟩
  intro ds vs j r
  induction vs generalizing ds j with
  | nil => obtain ⟨as, r, f⟩ := r; cases r; exact ⟨[], .nil, fun _ h => (nomatch h)⟩
  | cons w vs ih =>
    obtain ⟨as, r, f⟩ := r
    cases r with
    | cons h1 h2 =>
      have d1 : DRep ρ h _ w := ⟨_, h1, fun b hb => f b (List.mem_append_left _ hb)⟩
      have d2 : DReps ρ h _ vs := ⟨_, h2, fun b hb => f b (List.mem_append_right _ hb)⟩
      cases j with
      | zero => exact one k d2
      | succ j => exact one d1 (ih d2)
theorem setItem_at {l : Addr} {items : Array Value} {ne : Nat} {k : Int} {t : Tok} {v : Value} {A : Around} {Q : Unit → Shared → Prop} (hl : s.heap.get? l = some { cls := .type "list", data := .seq items ne })
    (h0 : 0 ≤ k) (hfit : k < 2 ^ 63) (hn : k.toNat < items.size)
    (hQ : ∀ h', h'.get? l = some { cls := .type "list", data := .seq (items.setIfInBounds k.toNat v) ne } → Heap.SameBut l s.heap h' → Q () { s with heap := h' }) :
    wpAny (model PW cx.w) A (setItem (.ref l) (.int k t) v) Q E s := by
  have hl' : s.heap.IsList l items := ⟨_, hl, rfl, ne, rfl⟩
  unfold setItem
  try with_reducible refine wpAny_holding ?_
  first | refine wpAny_bind (wpAny_pure ?_) | skip
  refine wpAny_bind (wpAny_sequenceKey hl'.typeIs (by decide) ?_)
  refine wpAny_bind (wpAny_callSpecial?_slot (name := Str.ofString "__setitem__") hl'.typeIs slot_list_setitem
    (wpAny_call_entry slot_list_setitem hl'.typeIs entry_list_setitem ?_ (args_list_setitem _ _ _)))
  show wpAny _ _ (Builtin.List.listSubscript? (.int k t) >>= _) _ _ s
  refine wpAny_bind (wpAny_listSubscript_int (fitsIndex_of h0 hfit) ?_)
  clear hfit
  obtain ⟨j, rfl⟩ := Int.eq_ofNat_of_zero_le h0
  have hj : j < items.size := hn
  have hx' : items[j]? = some items[j] := Array.getElem?_eq_getElem hj
  show wpAny _ _ ((seqItemAt l j >>= fun r => pure (r.map (j, ·))) >>= _) _ _ s
  refine wpAny_bind (wpAny_bind (wpAny_seqItemAt hl rfl (wpAny_pure ?_)))
  rw [hx']
  show wpAny _ _ (setSeqItemAt l j v >>= _) _ _ s
  have hfin : (s.heap.update l (Obj.mapSeq (·.setIfInBounds j v))).get? l = some { cls := .type "list", data := .seq (items.setIfInBounds j v) ne } := by
    rw [Heap.get?_update_self _ hl rfl]
    simp [Obj.mapSeq]
  refine wpAny_bind (wpAny_setSeqItemAt hl rfl ?_)
  first
    | exact wpAny_bind (wpAny_pure (wpAny_pure ⟨.none, rfl, wpAny_pure (hQ _ hfin (Heap.SameBut.update ..))⟩))
    | exact wpAny_pure ⟨.none, rfl, wpAny_pure (hQ _ hfin (Heap.SameBut.update ..))⟩
theorem OU_L {n : Nat} {xs : List PyData} {k : Int} {x : PyData} {Q : Store → Prop} (hn : σ n = .list xs) (h0 : 0 ≤ k) (h1 : k.toNat < xs.length) (hb : k < 2 ^ 63) (q : Q (upd σ n (.list (xs.set k.toNat x)))) (hl : n < 1000 := by decide) : OU cx fx E d (.loc n) (.dat (.int k)) (.dat x) m σ Q := fun A ρ s ov iv vv ok R ro ri rv => by
  obtain ⟨a', e, us, j, g, D⟩ := named R hn (hl := hl)
  obtain rfl := locEq e ro
  obtain ⟨t, rfl⟩ := of_int ri
  have := D.length
  refine setItem_at (cx := cx) g h0 hb (by rw [List.size_toArray, ← this]; exact h1) fun h' g' hs' => ?_
  have C := mutCarry R e hs'
  exact OU.mut (t := s.toks) (ao := .list (xs.set k.toNat x)) R e hl hs' ⟨us.set k.toNat vv, j, by rw [g']; simp, (DReps.set rv D).carry C⟩ q
theorem OC_tupN {n : Nat} {xs : List PyData} {Q : LV → Store → Prop} (hn : σ n = .list xs) (hz : xs.length ≤ 1000) (q : Q (.dat (.tuple xs)) σ) (hl : n < 1000 := by decide) : OC cx fx E d (.type "tuple") [.loc n] m σ Q := fun A ρ s vs ok R r => by
  cases r with
  | cons a r =>
  cases r
  obtain ⟨a', e, us, j, g, D⟩ := named R hn (hl := hl)
  obtain rfl := locEq e a
  refine call_tuple_list (items := us.toArray) ⟨_, g, rfl, _, rfl⟩ (fun h' hk => ?_) (by rw [List.size_toArray, ← D.length]; exact Nat.le_trans hz (by decide))
  obtain ⟨R', X⟩ := R.keeps s.toks hk
  exact VP.up X (newSeq (cls := "tuple") R' (D.carry (X.carry0 R.toRelC)) (.inl ⟨rfl, q⟩))
theorem mul_at {a' : Addr} {j : Nat} {x : Int} {u : Tok} {A : Around} {Q : Value → Shared → Prop} (g : s.heap.get? a' = some (lsObj [.none] j)) (h0 : 0 ≤ x) (hx : x ≤ 1000000)
    (h : Q (.ref s.heap.objs.size) { s with heap := s.heap.push (lsObj (List.replicate x.toNat .none) 0) }) : wpAny (model PW cx.w) A (binaryOp .Mult (.ref a') (.int x u)) Q E s := by
  have e2 : (List.foldl (fun x1 x2 => x1 ++ x2) #[] (List.replicate x.toNat #[Value.none])) = (List.replicate x.toNat Value.none).toArray := by
    have : ∀ (k : Nat) (acc : Array Value), List.foldl (fun x1 x2 => x1 ++ x2) acc (List.replicate k #[Value.none]) = acc ++ (List.replicate k Value.none).toArray := by
      intro k
      induction k with
      | zero => intro acc; simp
      | succ k ih =>
        intro acc
        rw [List.replicate_succ, List.foldl_cons, ih, List.replicate_succ]
        apply Array.toList_inj.mp
        simp
    rw [this _ #[]]; simp
  refine wpAny_binaryOp_repeat_ref (T := "list") (U := "int") (by decide) ⟨_, g, rfl⟩ (fun s' => typeIs_int s' x u) noFill_list_mul PySem.F.fills_int_mul PySem.F.slot_int_rmul repeat_list PySem.F.slot_int_index.lookup
    (call_meets PySem.F.slot_int_rmul (typeIs_int s x u) PySem.F.entry_int_rmul (PySem.F.args_int_rmul_2 _ _) (int___rmul___int_list x u a' #[.none] j)
      ⟨g, rfl, ⟨_, g, rfl⟩, call_meets PySem.F.slot_list_mul ⟨_, g, rfl⟩ PySem.F.entry_list_mul (PySem.F.args_list_mul_2 _ _)
        (PySem.AutoListH.list___mul___list_int_3 a' #[.none] j x u (by simp [Builtin.List.listFitsIndex]; lia) (by show ¬ 1 * x.toNat > (2 ^ 63 - 1) / 8; lia) (by simp [Builtin.List.listTooLong, sizeLine]; lia))
        ⟨g, ?_⟩⟩)
  have e3 : (if (#[Value.none] : Array Value).isEmpty = true then 0 else x.toNat) = x.toNat := if_neg (by decide)
  rw [e3, e2]
  exact h
theorem O_mulN (n : Nat) {p : Nat} {k : Nat} {Q : LV → Store → Prop} (hp : σ p = .list [.none]) (hk : k ≤ 1000000) (hn : σ n = .free) (q : Q (.loc n) (upd σ n (.list (List.replicate k .none)))) (hl : n < 1000 := by decide) (hl' : p < 1000 := by decide) : O2 cx fx E d (binaryOp .Mult) (.loc p) (.dat (.int k)) m σ Q := fun A ρ s a b ok R ra rb => by
  obtain ⟨a', e, us, j, g, D⟩ := named R hp (hl := hl')
  obtain rfl := locEq e ra
  obtain ⟨u, rfl⟩ := of_int rb
  have hus : us = [.none] := by
    obtain ⟨as, r, _⟩ := D
    cases r with
    | cons h1 h2 => cases h1; cases h2; rfl
  subst hus
  refine mul_at g (by lia) (by lia) ?_
  rw [Int.toNat_natCast]
  have dn : ∀ (k : Nat) (ρ : RM) (h : Heap), DReps ρ h (List.replicate k .none) (List.replicate k .none) := by
    intro k ρ h
    refine ⟨[], ?_, fun _ h => (nomatch h)⟩
    induction k with
    | zero => exact .nil
    | succ k ih => exact .cons (.none) ih
  exact newNamed (ao := .list (List.replicate k .none)) R hn hl rfl ⟨_, 0, Heap.get?_push_size _ rfl, dn _ _ _⟩ q
/-- the ints of a range -/
noncomputable def rangeL (a c : Int) : Nat → List Int
  | 0 => []
  | n + 1 => a :: rangeL (a + c) c n
theorem rangeL_len (c : Int) : ∀ (n : Nat) (a : Int), (rangeL a c n).length = n
  | 0, _ => rfl
  | n + 1, a => congrArg Nat.succ (rangeL_len c n (a + c))
theorem rangeL_get (c : Int) : ∀ (n : Nat) (a : Int) (i : Nat), i < n → (rangeL a c n)[i]? = some (a + i * c)
  | 0, _, _, h => absurd h (Nat.not_lt_zero _)
  | n + 1, a, 0, _ => by simp [rangeL]
  | n + 1, a, i + 1, h => by
    show (rangeL (a + c) c n)[i]? = _
    rw [rangeL_get c n (a + c) i (Nat.lt_of_succ_lt_succ h)]
    congr 1
    push_cast
    rw [Int.add_mul]; lia
/-- a loop over a range -/
theorem TI_of {e : Expr} {Q : List PyData → Store → Prop} (hd : 0 < d) (h : ∀ A ρ s, AOk A d fx → Rel cx fx ρ m σ s → wpAny (model PW cx.w) A (eval e fx.env) (fun v s₁ => ∃ σ₁ ρ₁ r a b c t u w n, v = .ref r ∧ Ext allN noS ρ s.heap ρ₁ s₁.heap ∧ Rel cx fx ρ₁ m σ₁ s₁ ∧ IsRange s₁.heap r a b c t u w ∧
      Builtin.Range.small a b c = true ∧ Builtin.Range.rangeSize a b c = (n : Nat) ∧ Q ((rangeL a c n).map .int) σ₁) E s) : TI cx fx E d e m σ Q := fun A ρ s ok R =>
  wpAny_mono (h A ρ s ok R) (fun xv s₁ ⟨σ₁, ρ₁, r, a, b, c, t, u, w, n, ev, X₁, R₁, hr, hs, hn, q⟩ => by
    subst ev
    refine wpAny_pyIter_range hr hs ?_
    obtain ⟨R₂, X₂⟩ := R₁.push { cls := .type "range_iterator", data := .fields #[rawInt a, rawInt (Builtin.Range.rangeSize a b c), rawInt c] } s₁.toks
    obtain ⟨n1, n2, n3⟩ := newAddr R₁
    have W := Walks.range (prog := PW) (w := cx.w) (A := A) (ok.handled.resolve_left (by lia)) s₁.heap.objs.size a c n
    refine ⟨_, σ₁, ρ₁, s₁.heap.objs.size, rfl, X₁.trans X₂, R₂, old_none R X₁, ⟨_, _, _, _, _, (by rw [List.length_map, rangeL_len]; exact W), fun b hb => .inl (List.mem_singleton.mp hb), n1, n2, Heap.get?_push_size _ rfl, rfl, ?_, ?_, ?_⟩, q⟩
    · show IsRangeIter _ _ _ _ _
      have e : a + ((0 : Nat) : Int) * c = a := by simp
      have e2 : ((n : Int) - ((0 : Nat) : Int)) = n := by simp
      rw [e, e2, ← hn]; exact Heap.get?_push_size _ rfl
    · rintro i v ⟨t, rfl⟩ hi
      rw [List.length_map, rangeL_len] at hi
      refine ⟨.int (a + i * c), by rw [List.getElem?_map, rangeL_get c n a i hi]; rfl, [], .int _ _, fun _ h => (nomatch h)⟩
    · intro i h' st
      exact ⟨_, _, st, rfl⟩) fun _ _ x => x
theorem rangeSize_down (n : Nat) : Builtin.Range.rangeSize ((n : Int) - 1) (-1) (-1) = (n : Nat) := by
  unfold Builtin.Range.rangeSize
  rw [if_neg (by decide)]
  by_cases h : (n : Int) - 1 > -1
  · rw [if_pos h, show -(-1 : Int) = 1 from rfl, Int.ediv_one]; lia
  · rw [if_neg h]; lia
theorem small_down {n : Nat} (hn : n ≤ 1000000) : Builtin.Range.small ((n : Int) - 1) (-1) (-1) = true := by
  unfold Builtin.Range.small
  rw [rangeSize_down]
  simp only [Builtin.Range.rangeFitsLong, Bool.and_eq_true, Bool.or_eq_true, decide_eq_true_eq, beq_iff_eq, show ¬ ((-1 : Int) > 0) by decide, if_false]
  lia
theorem T_evalB {x : Str} {np pos : Pos} {es : List Expr} {T : String} {A : Around} {P : Value → Shared → Prop} (ok' : CxOk cx) (e : nsIn (KF cx.w.params) mainGlobals x = some none) (hv : bootBuiltins x = some (.type T)) (hn : x ≠ "__name__") (ok : AOk A d fx) (R : Rel cx fx ρ m σ s)
    (h : TEs cx fx E d pos es m σ (fun ls σ₂ => ∀ ρ₂ s₂ vs, Ext allN noS ρ s.heap ρ₂ s₂.heap → Rel cx fx ρ₂ m σ₂ s₂ → All2 (LRep ρ₂ s₂.heap) ls vs → wpAny (model PW cx.w) A (call (.type T) vs) P E s₂)) (hes : ∃ b t r, backTo pos (starEach es fx.env) = (b, t) :: r)
    (hp : Plain fx pos es) (hk : fx.cs.kind = .function) (hx : fx.env.kindOf x = some .globalImplicit) (hd : (x == ("__debug__" : Str)) = false) : wpAny (model PW cx.w) A (eval (.Call (.Name x np) es [] pos) fx.env) P E s := by
  refine wpAny_Call_ofName (Name_function_global hk hx (loadGlobal_builtin (env := fx.env) (ok'.T.g.keeps R.base) (mg_none_of ok'.K ok'.T.g e) (ok'.T.b.keeps R.base) ((ok'.T.builtins x hn).trans hv) ?_) hd)
  obtain ⟨b, t, r, eb⟩ := hes
  have fin := h A ρ s ok R
  unfold Plain at hp
  show wpAny _ _ (callWith pos (.type T) [] (backTo pos (starEach es fx.env)) []) _ _ _
  rw [eb] at fin hp ⊢
  rw [List.any_cons] at hp
  obtain ⟨hb, hr⟩ := Bool.or_eq_false_iff.mp hp
  have hb' : b = false := hb
  subst hb'
  exact PySem.callWith_type (by rw [List.any_cons]; exact hp) (evalArgs_plain (wpAny_mono fin (fun vs s₂ ⟨ls, σ₂, ρ₂, X₂, R₂, r₂, q⟩ => q ρ₂ s₂ vs X₂ R₂ r₂) fun _ _ x => x))
end
end Mine
open PySem PySem.W PySem.Spec PySem.Calls PyProof.Rows Builtin Builtin.ObjectAttr
namespace Mine
section
variable {cx : Cx} {fx : Fx} {E : Value → Shared → Prop} {d : Nat} {m : Locals} {σ : Store} {ρ : RM} {s : Shared}
theorem isStr_key {k : Value} {x y : Str} {t : Tok} (e : k = .str x t) : k.isStr y = sb x y := by
  subst e
  show (x == y) = sb x y
  rw [Bool.eq_iff_iff, sb_iff, beq_iff_eq]
noncomputable def putE (hs : Int) (key v : Value) : Option DictEntry → DictEntry
  | some e => { e with val := v }
  | none => ⟨hs, key, v⟩
theorem FRep.put {h : Heap} {x : Str} {l : LV} {v : Value} {hs : Int} {t : Tok} (r : LRep ρ h l v) (hl : ∀ k, l = .loc k → k < 32) : ∀ {fs : List (Str × LV)} {es : List DictEntry}, FRep ρ h fs es →
    FRep ρ h (putl fs x l) (nsPutIn x.cps.size x.cps.toList (putE hs (.str x t) v) es).1
  | [], [], _ => ⟨⟨t, rfl⟩, r, hl, trivial⟩
  | f :: fs, e :: es, ⟨⟨u, k⟩, r', hk, rest⟩ => by
    have ih := FRep.put (x := x) (hs := hs) (t := t) r hl rest
    unfold putl nsPutIn
    rw [Value.isStrByCps_eq, isStr_key k]
    cases q : sb f.1 x with
    | true =>
      have e' := sb_eq q
      exact ⟨⟨u, e' ▸ k⟩, r, hl, rest⟩
    | false => exact ⟨⟨u, k⟩, r', hk, ih⟩
  | [], _ :: _, r => r.elim
  | _ :: _, [], r => r.elim
theorem FRep.noRef {h : Heap} : ∀ {fs : List (Str × LV)} {es : List DictEntry}, FRep ρ h fs es → es.any (·.refKey) = false
  | [], [], _ => rfl
  | f :: fs, e :: es, ⟨⟨u, k⟩, _, _, rest⟩ => by
    rw [List.any_cons, FRep.noRef rest, Bool.or_false]
    unfold DictEntry.refKey; rw [k]
  | [], _ :: _, r => r.elim
  | _ :: _, [], r => r.elim
theorem FRep.len {h : Heap} : ∀ {fs : List (Str × LV)} {es : List DictEntry}, FRep ρ h fs es → es.length = fs.length
  | [], [], _ => rfl
  | _ :: _, _ :: _, ⟨_, _, _, rest⟩ => congrArg Nat.succ (FRep.len rest)
  | [], _ :: _, r => r.elim
  | _ :: _, [], r => r.elim
theorem putName_dict (x : Str) (hs : Int) (key v : Value) (es : List DictEntry) (n : Nat) : ∃ n', Obj.putName x hs key v (dictOf es n) = dictOf (nsPutIn x.cps.size x.cps.toList (putE hs key v) es).1 n' := by
  have e : Obj.putName x hs key v (dictOf es n) = (match nsPutIn x.cps.size x.cps.toList (putE hs key v) es with | (es', false) => dictOf es' n | (es', true) => dictOf es' (n + 1)) := by
    unfold Obj.putName
    have hf : putE hs key v = (fun o : Option DictEntry => match o with | some e => { e with val := v } | none => ⟨hs, key, v⟩) := by funext o; cases o <;> rfl
    rw [hf]
    rfl
  rw [e]
  generalize nsPutIn _ _ _ es = z
  obtain ⟨es', b⟩ := z
  cases b
  · exact ⟨n, rfl⟩
  · exact ⟨n + 1, rfl⟩
/-- what the class must say of a name that is stored -/
noncomputable def FS (w : World) (C : Addr) (name : Str) : Prop := plainOver (KF w.params) C = true ∧ takerIn (KF w.params) C name = some none ∧ (clsIn (KF w.params) C).any (·.hasDict) = true ∧ findIn (KF w.params) (.ref C) "__setattr__" = some (some (.builtin "object.__setattr__"))
theorem setattr_code {A : Around} {C : Addr} {a dx : Addr} {name : Str} {v : Value} {es : List DictEntry} {n : Nat} {u : Tok} {R : Result → Shared → Prop} (X : (KF cx.w.params).In s.heap) (F : FS cx.w C name)
    (ha : s.heap.get? a = some ⟨.ref C, some dx, .plain, #[]⟩) (hd : s.heap.get? dx = some (dictOf es n)) (hn : es.any (·.refKey) = false) (hz : es.length ≤ 1000)
    (h : ∀ h' n' hs t tk, Heap.SameBut dx s.heap h' → h'.get? dx = some (dictOf (nsPutIn name.cps.size name.cps.toList (putE hs (.str name t) v) es).1 n') → R (.ok (.ret .none)) { s with heap := h', toks := tk }) :
    codeAny (model PW cx.w) A (.call (.builtin "object.__setattr__") ⟨[.ref a, .str name u, v], []⟩) R s := by
  obtain ⟨f1, f2, f3, f4⟩ := F
  have I : InstAt s.heap a ⟨.ref C, some dx, .plain, #[]⟩ C (some (dictOf es n)) := ⟨ha, rfl, rfl, hd⟩
  refine osa_open X I f1 f2 fun b => ?_
  obtain ⟨cd, hc, hd'⟩ := any_some f3
  refine wpAny_bind (wpAny_pure (wpAny_bind (wpAny_bind (wpAny_loadPart ha (wpAny_bind ((looks_clsIn X hc).here ?_))))))
  rw [hd']
  refine wpAny_pure (a := some dx) (wpAny_bind (wpAny_pure (wpAny_bind ?_)))
  unfold nsSet
  refine wpAny_bind (wpAny_bind (wpAny_askSetting (wpAny_pure (wpAny_bind (wpAny_mkText (wpAny_bind (wpAny_loadPart hd ?_)))))))
  have c : (!es.toArray.any (·.key.isStr name) && es.toArray.any (·.refKey)) = false := by
    have : es.toArray.any (·.refKey) = es.any (·.refKey) := by rw [← Array.any_toList]
    rw [this, hn, Bool.and_false]
  show wpAny _ _ (if aRefKeyMayBeTheName name es.toArray = true then _ else _) _ _ _
  rw [aRefKeyMayBeTheName_at, c]
  refine wpAny_updatePart hd ?_
  obtain ⟨n', e'⟩ := putName_dict name (PyData.keyHash cx.w.params name) (.str name s.toks) v es n
  have len : (nsPutIn name.cps.size name.cps.toList (putE (PyData.keyHash cx.w.params name) (.str name s.toks) v) es).1.length ≤ es.length + 1 := by
    clear e' c hn hd I h
    induction es with
    | nil => exact Nat.le_refl _
    | cons e r ih =>
      unfold nsPutIn
      split
      · exact Nat.le_succ _
      · have := ih (Nat.le_of_succ_le hz)
        generalize nsPutIn _ _ _ r = z at this ⊢
        obtain ⟨r', b⟩ := z
        exact Nat.succ_le_succ this
  have D' := Heap.get?_update_self (Obj.putName name (PyData.keyHash cx.w.params name) (.str name s.toks) v) hd (by rw [e']; rfl)
  rw [e'] at D'
  refine wpAny_bind (wpAny_lookBehind D' (pastItsLine_dict (by rw [List.size_toArray, sizeLine_eq]; lia)) ?_)
  exact wpAny_pure (h _ n' _ _ _ (Heap.SameBut.update ..) D')
theorem setattr_at {A : Around} {C : Addr} {a dx : Addr} {name : Str} {v : Value} {es : List DictEntry} {n : Nat} {Q : Unit → Shared → Prop} (X : (KF cx.w.params).In s.heap) (F : FS cx.w C name)
    (ha : s.heap.get? a = some ⟨.ref C, some dx, .plain, #[]⟩) (hd : s.heap.get? dx = some (dictOf es n)) (hn : es.any (·.refKey) = false) (hz : es.length ≤ 1000)
    (h : ∀ h' n' hs t tk, Heap.SameBut dx s.heap h' → h'.get? dx = some (dictOf (nsPutIn name.cps.size name.cps.toList (putE hs (.str name t) v) es).1 n') → Q () { s with heap := h', toks := tk }) :
    wpAny (model PW cx.w) A (setAttr (.ref a) name v) Q E s :=
  set_plain X (od := some (dictOf es n)) ⟨ha, rfl, rfl, hd⟩ F.2.2.2 (setattr_code (s := { s with toks := s.toks + 1 }) X F ha hd hn hz h)
theorem X_setattr (ok' : CxOk cx) {o value : Expr} {name : Str} {p' p : Pos} {Q : Fl → Locals → Store → Prop}
    (h : TE cx fx E d value m σ (fun lv σ₁ => TE cx fx E d o m σ₁ (fun lo σ₂ => ∃ n C k fs, lo = .loc n ∧ n < 1000 ∧ σ₂ n = .inst C k ∧ σ₂ k = .ns fs ∧ fs.length ≤ 100 ∧ FS cx.w C name ∧ LowL lv ∧ Q .next m (upd σ₂ k (.ns (putl fs name lv))))))
    (hs : swapsWith value (some (.Attribute o name p')) p.line fx.env = pure false := by rfl) : TX cx fx E d (.Assign [.Attribute o name p'] value p) m σ Q := fun A ρ s ok R =>
  plainObj_wpAny_Assign_Attribute (wpAny_mono (h A ρ s ok R) (fun v s₁ ⟨lv, σ₁, ρ₁, X₁, R₁, r₁, h₁⟩ => wpAny_mono (h₁ A ρ₁ s₁ ok R₁) (fun ov s₂ ⟨lo, σ₂, ρ₂, X₂, R₂, r₂, n, C, k, fs, e, hlt, hn, hk, hz, F, hl, q⟩ => by
    subst e
    obtain ⟨a, dx, es, j, e, e1, e2, g, FF, I⟩ := inst R₂ hn hk hlt
    obtain rfl := locEq e r₂
    refine setattr_at (ok'.K.keeps R₂.base) F I.at_ g FF.noRef (by rw [FF.len]; lia) fun h' n' hs' t tk sb' g' => ?_
    have rv : LRep ρ₂ s₂.heap lv v := r₁.ext R₁ X₂
    have C' := mutCarry R₂ e1 sb'
    have FF' := (FRep.put (hs := hs') (t := t) (x := name) rv hl FF).carry C' (fun _ _ _ q => q)
    obtain ⟨R', X'⟩ := R₂.toRelC.mut (t := tk) e1 (Nat.lt_trans e2 (by decide)) sb' (ao := .ns (putl fs name lv)) ⟨_, n', g', FF'⟩
    exact ⟨.next, m, _, ρ₂, (X₁.trans (X₂.trans X')).st, R₂.next R' X', trivial, q⟩) fun _ _ x => x) fun _ _ x => x) hs
/-- unpacking -/
theorem X_unpack {names : List (Str × Pos)} {k : Nat} {tp p : Pos} {value : Expr} {Q : Fl → Locals → Store → Prop} (hd : 0 < d)
    (h : TE cx fx E d value m σ (fun l σ₁ => ∃ ds, l = .dat (.tuple ds) ∧ ds.length = names.length ∧ Q .next ((names.zip ds).foldl (fun m x => putl m x.1.1 (.dat x.2)) m) σ₁))
    (hx : ∀ x ∈ names, fx.env.kindOf x.1 = some .local) (hk : fx.cs.kind = .function := by rfl)
    (he : assignEach (names.map fun x => .Name x.1 x.2) fx.env = names.map fun x => (false, assign (.Name x.1 x.2) fx.env) := by rfl)
    (hs : swapsWithSole [.Tuple (names.map fun x => .Name x.1 x.2) k tp] value p.line fx.env = pure false := by rfl) (hw : swappedStores [.Tuple (names.map fun x => .Name x.1 x.2) k tp] value fx.env = pure none := by rfl) :
    TX cx fx E d (.Assign [.Tuple (names.map fun x => .Name x.1 x.2) k tp] value p) m σ Q := fun A ρ s ok R =>
  Assign_Tuple (wpAny_mono (h A ρ s ok R) (fun v s₁ ⟨l, σ₁, ρ₁, X₁, R₁, r₁, ds, e, hlen, q⟩ => by
    subst e
    obtain ⟨t, vs, rfl, ht, D⟩ := of_tup r₁
    have len := D.length
    refine assign_Tuple_tuple (ok.handled.resolve_left (by lia)) ht (by rw [he, List.length_map, ← hlen, len]; simp) (by rw [he]; clear he hs hw q hlen hx; induction names with | nil => rfl | cons x r ih => rw [List.map_cons, List.findIdx?_cons]; simpa using ih) fun h' hb => ?_
    obtain ⟨R₂, X₂⟩ := R₁.keeps s₁.toks (fun b o e => hb b o (Nat.ne_of_lt (Heap.lt_size e)) e)
    rw [he]
    have D₂ := D.carry (X₂.carry0 R₁.toRelC)
    have X₀ : Ext permH (fun a => a = fx.L) ρ s.heap ρ₁ h' := (X₁.trans X₂).st
    clear he hs hw D len ht hb h X₁ X₂ r₁
    have : ∀ {names : List (Str × Pos)} {ds : List PyData} {vs : List Value} {m : Locals} {s₂ : Shared}, (∀ x ∈ names, fx.env.kindOf x.1 = some .local) → ds.length = names.length → DReps ρ₁ s₂.heap ds vs → Rel cx fx ρ₁ m σ₁ s₂ → Ext permH (fun a => a = fx.L) ρ s.heap ρ₁ s₂.heap → Q .next ((names.zip ds).foldl (fun m x => putl m x.1.1 (.dat x.2)) m) σ₁ →
        wpAny (model PW cx.w) A (assignInOrder ((names.map fun x => (false, assign (.Name x.1 x.2) fx.env)).map (·.2)) vs) (fun _ => SP cx fx ρ s Q .next) E s₂ := by
      intro names
      induction names with
      | nil =>
        intro ds vs m s₂ _ hl D R X q
        have : ds = [] := List.eq_nil_of_length_eq_zero hl
        subst this
        exact assignInOrder_nil ⟨.next, _, _, ρ₁, X, R, trivial, q⟩
      | cons x r ih =>
        intro ds vs m s₂ hx hl D R X q
        obtain ⟨as, rd, f⟩ := D
        cases ds with
        | nil => cases hl
        | cons y ys =>
        cases rd with
        | cons h1 h2 =>
          refine assignInOrder_cons (wpAny_assign_Name (store_local (l := .dat y) R ⟨_, h1, fun b hb => f b (List.mem_append_left _ hb)⟩ hk (hx x (.head _)) fun s₃ R₃ X₃ => ?_))
          have C : Carry ρ₁ s₂.heap ρ₁ s₃.heap := by
            obtain ⟨_, ⟨oL, es, ep, eL, dL, _⟩, _⟩ := R.fr
            exact X₃.carry R.toRelC fun a q => ⟨oL, q ▸ eL, fun vs k z => by rw [dL] at z; cases z⟩
          exact ih (fun x hm => hx x (.tail _ hm)) (Nat.succ.inj hl) (DReps.carry C ⟨_, h2, fun b hb => f b (List.mem_append_right _ hb)⟩) R₃ (X.trans X₃) q
    exact this hx hlen D₂ R₂ X₀ q) fun _ _ x => x) hs hw
end
end Mine
open PySem PySem.W PySem.Spec PySem.Calls PyProof.Rows
namespace Mine
section
variable {cx : Cx} {fx : Fx} {E : Value → Shared → Prop} {d : Nat} {m : Locals} {σ : Store} {ρ : RM} {s : Shared}
/-- what the heap must say of a class that is called -/
noncomputable def FC (w : World) (C fI : Addr) : Prop := makesIn (KF w.params) C = true ∧ findIn (KF w.params) (.ref C) "__init__" = some (some (.ref fI)) ∧ typeIn (KF w.params) (.ref fI) = some (.type "function")
theorem typeCall_weight (a : Value) (rest : List Value) {C : Addr} (e : a = .ref C) : (Code.builtin "type.__call__" ⟨a :: rest, []⟩).weight = 1 := by subst e; rfl
theorem cok_under {A : Around} (ok : AOk A (d + 2) fx) (C : Addr) (rest : List Value) : COk (A.under (.builtin "type.__call__" ⟨.ref C :: rest, []⟩)) d fx.fs := by
  refine ⟨ok.handled.resolve_left (by lia), ?_, ?_, ?_⟩
  · show pushEnvs [] A.frames = _
    exact ok.frames
  · have := ok.depth
    show A.depth + 1 + d + 1 < 990
    lia
  · have := ok.units
    show A.units + (1 + 3 * 0) + 10 * (d + 1) + 100 < 9900
    lia
theorem OC_new (ok' : CxOk cx) {C fI : Addr} {n k : Nat} {ls : List LV} {Q Q' : LV → Store → Prop} (F : FC cx.w C fI) (hn : σ n = .free) (hk : σ k = .free) (hl : ∀ l ∈ ls, LowL l)
    (h : TC cx d (.ref fI) (.loc n :: ls) (upd (upd σ k (.ns [])) n (.inst C k)) Q' (fun _ => False)) (hQ : ∀ l σ', Q' l σ' → l = .dat .none ∧ Q (.loc n) (mix σ' (upd (upd σ k (.ns [])) n (.inst C k)))) (hnl : n < 32 := by decide) (hkl : k < 32 := by decide) (hne : n ≠ k := by decide) :
    OC cx fx E (d + 2) (.ref C) ls m σ Q := fun A ρ s vs ok R r => by
  obtain ⟨f1, f2, f3⟩ := F
  obtain ⟨hh, g, dr, t, os⟩ := s
  have X := ok'.K.keeps R.base
  refine wpAny_call (make_core (makes_of X f1) (looks_findIn X f2) (fun self => bind_fn X self f3) (.inl rfl) ?_)
  obtain ⟨R₁, X₁⟩ := R.toRelC.new emptyDict hk (by lia) rfl (ao := .ns []) ⟨[], 0, Heap.get?_push_size _ rfl, trivial⟩
  have hk₁ : setR ρ k hh.objs.size k = some hh.objs.size := setR_self ..
  have hn₁ : upd σ k (.ns []) n = .free := by rw [upd_ne hne]; exact hn
  obtain ⟨R₂, X₂⟩ := R₁.new (instObj C hh.objs.size) hn₁ (by lia) rfl (ao := .inst C k) ⟨hh.objs.size, by rw [setR_ne (Ne.symm hne)]; exact hk₁, hkl, Heap.get?_push_size _ rfl⟩
  have Y : Ext allN noS ρ hh _ _ := X₁.trans X₂
  have R₃ := R.next R₂ Y
  have r₃ := LReps.ext R Y r
  have sz : ((hh.push emptyDict).objs.size : Nat) = hh.objs.size + 1 := Heap.size_push _ _
  have hA : setR (setR ρ k hh.objs.size) n (hh.push emptyDict).objs.size n = some (hh.objs.size + 1) := by rw [setR_self, sz]
  refine codeAny_mono (callTC (E := E) (Q := fun l σ'' => l = .dat .none ∧ Q (.loc n) σ'') h (fun l hm => ?_) EPass.never (fun l σ' ll q => hQ l σ' q) (cok_under ok C vs) ok.fA R₃ (.cons ⟨_, hA, rfl⟩ r₃)) fun r' s' z => ?_
  · rcases List.mem_cons.mp hm with rfl | hm
    · intro j e; cases e; exact hnl
    · exact hl l hm
  · rcases r' with e | (_ | _ | _ | v)
    · exact z
    · exact z
    · exact z
    · exact z
    · obtain ⟨l, σ', ρ', X', R', r', rfl, q⟩ := z
      obtain rfl := of_none r'
      exact ⟨rfl, .loc n, σ', ρ', Y.trans X', R', ⟨_, X'.le n _ trivial hA, rfl⟩, q⟩
end
section
variable {prog : Program} {w : World} {M : Model} {A : Around} {E : Value → Shared → Prop} {R : Result → Shared → Prop} {h : Heap} {g : Array GenState} {d : Drawn} {t : Nat} {os : OsState}
variable {nm q : Str} {C N : Addr} {bs bm bmB : List Value} {hdct : Bool} {sn : List Str} {sub : List Value} {ab : Bool} {col : Option Bool} {dd : Option Addr} {k0 k1 k2 k3 k5 : Option Value} {B newId initId : String}
theorem checkNewX (F : ExcBaseFacts B newId initId bmB) (hB : bm.contains (.type B) = true) {rest : List Value} {Q : Unit → Shared → Prop} (hC : h.get? C = some (excClassObj nm q C N bs bm hdct sn sub ab col dd k0 k1 k2 k3 k5 newId))
    (hq : Q () ⟨h, g, d, t, os⟩) : wpAny M A (checkBuiltinCall newId ⟨.ref C :: rest, []⟩) Q E ⟨h, g, d, t, os⟩ := by
  have hcont : (Value.ref C :: bm).contains (.type B) = true := by rw [List.contains_cons, hB, Bool.or_true]
  have hstar := F.noStar
  simp only [checkBuiltinCall, F.newKind, F.newSplit, F.newRow]
  repeat (first | refine wpAny_loadPart_at hC ?_ | (refine wpAny_isSubtype_exc hC ?_; rw [hcont]) | refine wpAny_staticBase_exc hC ?_ | refine wpAny_madeBy_exc hC ?_ | simp only [bne_self_eq_false, Bool.false_eq_true, if_false] | wp_step)
  exact hq
theorem newX (F : ExcBaseFacts B newId initId bmB) (hB : bm.contains (.type B) = true) (hAt : bm.contains (.type "AttributeError") = false) (hNa : bm.contains (.type "NameError") = false) {rest : List Value} (hC : h.get? C = some (excClassObj nm q C N bs bm hdct sn sub ab col dd k0 k1 k2 k3 k5 newId))
    (hq : R (.ok (.ret (.ref (h.objs.size + 1)))) ⟨(h.push { cls := .type "tuple", data := .seq rest.toArray }).push
      { cls := .ref C, data := .fields #[.ref h.objs.size, .none, .none, .none, .bool false, .none] }, g, d, t, os⟩) (hrest : rest.length ≤ sizeLine) :
    codeAny (model prog w) A (.builtin newId ⟨.ref C :: rest, []⟩) R ⟨h, g, d, t, os⟩ := by
  have hends := F.ends
  have hcB : (Value.ref C :: bm).contains (.type B) = true := by rw [List.contains_cons, hB, Bool.or_true]
  have hcA : (Value.ref C :: bm).contains (.type "AttributeError") = false := by rw [List.contains_cons, hAt]; rfl
  have hcN : (Value.ref C :: bm).contains (.type "NameError") = false := by rw [List.contains_cons, hNa]; rfl
  refine codeAny_builtinAt F.entry ?_
  unfold Builtin.«BaseException.__new__»
  refine PySem.wpAt_bind ?_
  show PySem.wpAt _ _ _ (stack >>= _) _ _ _
  refine PySem.wpAt_bind (PySem.wpAt_stack fun p below => PySem.wpAt_of_wpAny ?_)
  wp_walk
  refine PySem.wpAt_of_wpAny ?_
  rw [F.owner]
  repeat (first | with_reducible refine wpAny_madeHere_exc F.canon hC ?_ | with_reducible refine wpAny_loadPart_at hC ?_ | (with_reducible refine wpAny_isSubtype_exc hC ?_; first | rw [hcB] | rw [hcA] | rw [hcN]) | wp_step)
  show R _ _
  rw [Heap.size_push]
  exact hq
theorem callX {K : Frag} {f : Addr} (F : ExcBaseFacts B newId initId bmB) (X : K.In h) (hB : bm.contains (.type B) = true) (hAt : bm.contains (.type "AttributeError") = false) (hNa : bm.contains (.type "NameError") = false) {rest : List Value}
    (hC : K.lookup C = some (excClassObj nm q C N bs bm hdct sn sub ab col dd k0 k1 k2 k3 k5 newId)) (hi : findIn K (.ref C) "__init__" = some (some (.ref f))) (hf : typeIn K (.ref f) = some (.type "function")) (hrest : rest.length ≤ sizeLine)
    (hq : codeAny (model prog w) (A.under (.builtin "type.__call__" ⟨.ref C :: rest, []⟩)) (.call (.ref f) ⟨.ref (h.objs.size + 1) :: rest, []⟩) (InitBack (h.objs.size + 1) R) ⟨(h.push { cls := .type "tuple", data := .seq rest.toArray }).push { cls := .ref C, data := .fields #[.ref h.objs.size, .none, .none, .none, .bool false, .none] }, g, d, t, os⟩) :
    codeAny (model prog w) A (.call (.ref C) ⟨rest, []⟩) R ⟨h, g, d, t, os⟩ := by
  have hC' := X _ _ hC
  have f1 := tc_lookup
  have f2 := tc_bind (.ref C)
  have hT : (⟨h, g, d, t, os⟩ : Shared).TypeIs (.ref C) "type" := ⟨_, hC', rfl⟩
  refine codeAny_of_tree ?_
  show wpAny _ _ (callAny (.ref C) _) _ _ _
  repeat (any_goals (first | assumption | with_reducible refine wpAny_loadPart_at hC' ?_ | wp_step))
  refine ⟨rfl, ?_⟩
  refine codeAny_call_builtin_at (Code.quiet_builtin _ (by decide +kernel)) entry_typeCall (wpAny_check_type_call_sub hC' ?_)
  repeat (first | with_reducible refine wpAny_loadPart_at hC' ?_ | with_reducible refine wpAny_madeBy_exc hC' ?_ | wp_step)
  refine codeAny_call_builtin_code (Code.quiet_builtin _ F.quiet) (checkNewX F hB hC' ?_)
  refine newX F hB hAt hNa hC' ?_ hrest
  show wpAny _ _ _ _ _ _
  have k : ∀ b o, h.get? b = some o → ((h.push { cls := .type "tuple", data := .seq rest.toArray }).push { cls := .ref C, data := .fields #[.ref h.objs.size, .none, .none, .none, .bool false, .none] }).get? b = some o := fun b o e => Heap.get?_push_of_some _ (Heap.get?_push_of_some _ e)
  have hC₁ := k _ _ hC'
  have hget : ((h.push { cls := .type "tuple", data := .seq rest.toArray }).push
      { cls := .ref C, data := .fields #[.ref h.objs.size, .none, .none, .none, .bool false, .none] }).get? (h.objs.size + 1) = some
      { cls := .ref C, data := .fields #[.ref h.objs.size, .none, .none, .none, .bool false, .none] } := by heap_get
  have hcC : (Value.ref C :: bm).contains (.ref C) = true := by simp
  have I : InstAt ((h.push { cls := .type "tuple", data := .seq rest.toArray }).push { cls := .ref C, data := .fields #[.ref h.objs.size, .none, .none, .none, .bool false, .none] }) (h.objs.size + 1) { cls := .ref C, data := .fields #[.ref h.objs.size, .none, .none, .none, .bool false, .none] } C none := ⟨hget, rfl, rfl, trivial⟩
  unfold isInstance
  repeat (first | with_reducible refine wpAny_loadPart_at hget ?_ | wp_step)
  refine wpAny_isSubtype_exc (C := C) hC₁ ?_
  rw [hcC]
  show wpAny _ _ (holding [Value.ref (h.objs.size + 1)] (callSpecial? (Value.ref (h.objs.size + 1)) (Str.ofString "__init__") rest []) >>= _) _ _ ⟨(h.push { cls := .type "tuple", data := .seq rest.toArray }).push { cls := .ref C, data := .fields #[.ref h.objs.size, .none, .none, .none, .bool false, .none] }, g, d, t, os⟩
  refine wpAny_bind (wpAny_holding (special_fn (X.keeps k) I hi hf (wpAny_call (codeAny_mono hq fun r s' z => ?_))))
  rcases r with e | (_ | _ | _ | v)
  · exact z
  · exact z
  · exact z
  · exact z
  · obtain ⟨rfl, z⟩ := z
    exact wpAny_pure z
end
end Mine
open PySem PySem.W PySem.Spec PySem.Calls PyProof.Rows Builtin Builtin.ObjectAttr
namespace Mine
section
variable {w : World} {A : Around} {E : Value → Shared → Prop} {s : Shared} {K : Frag} {x C : Addr} {ox : Obj} {od : Option Obj} {name : Str} {expr : Bool} {Q : Value → Shared → Prop}
theorem bindGA (o : Value) : bindSpecial (.builtin "BaseException.__getattribute__") o = pure (.builtin "BaseException.__getattribute__", [o]) := PySem.F.excAttr_ValueError.ga.bind o
theorem get_valueX {v : Value} (X : K.In s.heap) (I : InstAt s.heap x ox C od) (hga : findIn K (.ref C) "__getattribute__" = some (some (.builtin "BaseException.__getattribute__")))
    (hg : findIn K (.ref C) "__getattr__" = some none) (hb : mroIn K C (.type "BaseException") = some true)
    (hf : findObj K C od name = some (.value v)) (hh : handedIn v = true) (h : Q v { s with toks := s.toks + 1 }) : wpAny (model PW w) A (getAttr (.ref x) name expr) Q E s := by
  obtain ⟨hh', g, d, t, os⟩ := s
  have L0 := I.type (M := model PW w)
  have L1 := looks_findIn (M := model PW w) X hga
  have L2 := looks_findIn (M := model PW w) X hg
  have L3 := looks_find (M := model PW w) X I hf
  have L4 : Looks (model PW w) hh' (isInstance (.ref x) (.type "BaseException")) true := L0.andThen (looks_mroIn X hb)
  unfold getAttr getAttrBy
  refine wpAny_bind (wpAny_mkText (wpAny_holding (wpAny_bind (L0.at (wpAny_bind (L1.at ?_))))))
  show wpAny _ _ (if (onTheHeap (.ref C) && (Value.builtin "BaseException.__getattribute__" == Value.builtin "object.__getattribute__")) = true then _ else getAttrByItsOwn _ _ _ _ _ _) _ _ _
  rw [if_neg (by rw [show (Value.builtin "BaseException.__getattribute__" == Value.builtin "object.__getattribute__") = false by decide +kernel, Bool.and_false]; exact Bool.false_ne_true)]
  unfold getAttrByItsOwn hookBefore
  refine wpAny_bind ?_
  show wpAny _ _ (typeLookup (.ref C) "__getattr__") _ _ _
  refine L2.at ?_
  have hx0 : (expr && onTheHeap (Value.builtin "BaseException.__getattribute__")) = false := by cases expr <;> rfl
  refine wpAny_bind (wpAny_attempt (wpAny_holding ?_))
  unfold callGetattribute
  rw [if_neg (by rw [hx0]; exact Bool.false_ne_true)]
  unfold boundAndCalled
  rw [bindGA]
  refine wpAny_bind (wpAny_pure ?_)
  refine wpAny_call ?_
  refine codeAny_call_builtin PySem.F.excAttr_ValueError.ga.plain PySem.F.entry_bexc_ga (@check_slot (model PW w) _ _ ⟨hh', g, d, t + 1, os⟩ "BaseException.__getattribute__" "BaseException" "__getattribute__" (.ref x) [.str name t] [] _ (by decide +kernel) (by decide +kernel) L4 (PySem.F.args_bexc_ga _ _) ?_)
  show wpAny _ _ (do
    let tp ← typeOf (.ref x)
    match ← find (.ref x) tp name with
    | .value v => ret v
    | .bind g a => bindTo g a (.ref x) tp
    | .missing => _) _ _ _
  refine wpAny_bind (L0.at (wpAny_bind (L3.at ?_)))
  refine wpAny_pure ?_
  show wpAny _ _ (handedOut v) _ _ _
  rw [handedOut_of hh]; exact wpAny_pure h
end
section
variable {cx : Cx} {fx : Fx} {E : Value → Shared → Prop} {d : Nat} {m : Locals} {σ : Store} {ρ : RM} {s : Shared}
theorem refuseX (self : Value) : refuseLoop self "__setattr__" [.ref 51, .ref 31, .type "Exception", .type "BaseException", .type "object"] = pure () := by
  rw [refuseLoop_ref, refuseLoop_ref]
  kernel_rfl
theorem mroX (P : Params) : ∃ cd, clsIn (KF P) 51 = some cd ∧ cd.mro = [.ref 51, .ref 31, .type "Exception", .type "BaseException", .type "object"] ∧ cd.hasDict = true  := by
  have e : (KF P).lookup 51 = some (o51_2 P) := by kernel_rfl
  refine ⟨_, (by unfold clsIn; rw [e]; rfl), rfl, rfl⟩
theorem setattrX_code {A : Around} {a : Addr} {v : Value} {vs : Array Value} {sl : Array (Option Value)} {u : Tok} {R : Result → Shared → Prop} (X : (KF cx.w.params).In s.heap) (ha : s.heap.get? a = some ⟨.ref 51, none, .fields vs, sl⟩)
    (h : ∀ hs t, R (.ok (.ret .none)) { s with heap := (((s.heap.push emptyDict).update a fun o => { o with dict := some s.heap.objs.size }).update s.heap.objs.size (Obj.putName "ball" hs (.str "ball" t) v)), toks := s.toks + 1 }) :
    codeAny (model PW cx.w) A (.call (.builtin "object.__setattr__") ⟨[.ref a, .str "ball" u, v], []⟩) R s := by
  have I : InstAt s.heap a ⟨.ref 51, none, .fields vs, sl⟩ 51 none := ⟨ha, rfl, rfl, trivial⟩
  obtain ⟨cd, hc, hm, hd⟩ := mroX cx.w.params
  have SF := PySem.F.store_object
  have sub : Looks (model PW cx.w) s.heap (isInstance (.ref a) (.type "object")) true := I.type.andThen (looks_mroIn X (by unfold mroIn; rw [hc, Option.bind_some, hm]; rfl))
  refine codeAny_call_builtin SF.slot.plain SF.entry (@check_slot (model PW cx.w) _ _ s "object.__setattr__" "object" "__setattr__" (.ref a) [.str "ball" u, v] [] _ SF.kind SF.split sub (SF.args (.ref a) (.str "ball" u) v) ?_)
  have hm' : Looks (model PW cx.w) s.heap (mroOf (.ref 51)) cd.mro := (looks_clsIn X hc).andThen .now
  have hb : findIn (KF cx.w.params) (.ref 51) "ball" = some none := by kernel_rfl
  rw [osa_eq, refuse_eq]
  refine wpAny_bind (wpAny_bind (I.type.here (wpAny_bind (hm'.here ?_))))
  rw [hm, refuseX]
  refine wpAny_pure (wpAny_bind (I.type.here (wpAny_bind ((looks_findIn X hb).here (wpAny_bind (wpAny_pure ?_))))))
  show wpAny _ _ (storeInOwnDict _ _ _ _ _ _) _ _ _
  refine wpAny_bind (wpAny_pure (wpAny_bind (wpAny_bind (wpAny_loadPart ha (wpAny_bind ((looks_clsIn X hc).here ?_))))))
  rw [hd]
  have hne : s.heap.objs.size ≠ a := Nat.ne_of_gt (Heap.lt_size ha)
  have ha₁ : (s.heap.push emptyDict).get? a = some ⟨.ref 51, none, .fields vs, sl⟩ := Heap.get?_push_of_some _ ha
  have hd₁ : (s.heap.push emptyDict).get? s.heap.objs.size = some emptyDict := Heap.get?_push_size _ rfl
  have hd₂ : ((s.heap.push emptyDict).update a fun o => { o with dict := some s.heap.objs.size }).get? s.heap.objs.size = some emptyDict := (Heap.get?_update_other _ _ (Ne.symm hne)).trans hd₁
  show wpAny _ _ (alloc { cls := .type "dict", data := .dict #[] } >>= _) _ _ _
  refine wpAny_bind (wpAny_alloc (wpAny_bind (wpAny_update ha₁ ?_)))
  refine wpAny_pure (wpAny_bind (wpAny_pure (wpAny_bind ?_)))
  unfold nsSet
  refine wpAny_bind (wpAny_bind (wpAny_askSetting (wpAny_pure (wpAny_bind (wpAny_mkText (wpAny_bind (wpAny_loadPart hd₂ ?_)))))))
  show wpAny _ _ (if aRefKeyMayBeTheName "ball" #[] = true then _ else _) _ _ _
  rw [aRefKeyMayBeTheName_at, show (!(#[] : Array DictEntry).any (·.key.isStr "ball") && (#[] : Array DictEntry).any (·.refKey)) = false by simp]
  refine wpAny_updatePart hd₂ ?_
  obtain ⟨n', e'⟩ := putName_dict "ball" (PyData.keyHash cx.w.params "ball") (.str "ball" s.toks) v [] 0
  have D' := Heap.get?_update_self (Obj.putName "ball" (PyData.keyHash cx.w.params "ball") (.str "ball" s.toks) v) hd₂ (by show (Obj.putName _ _ _ _ (dictOf [] 0)).isFreed = false; rw [e']; rfl)
  have e'' : Obj.putName "ball" (PyData.keyHash cx.w.params "ball") (.str "ball" s.toks) v emptyDict = dictOf (nsPutIn ("ball" : Str).cps.size ("ball" : Str).cps.toList (putE (PyData.keyHash cx.w.params "ball") (.str "ball" s.toks) v) []).1 n' := e'
  rw [e''] at D'
  refine wpAny_bind (wpAny_lookBehind D' (pastItsLine_dict (by show (1 : Nat) ≤ _; rw [sizeLine_eq]; lia)) ?_)
  exact wpAny_pure (h _ _)
theorem X_setattrX (ok' : CxOk cx) {o value : Expr} {p' p : Pos} {Q : Fl → Locals → Store → Prop}
    (h : TE cx fx E d value m σ (fun lv σ₁ => TE cx fx E d o m σ₁ (fun lo σ₂ => ∃ n k b, lo = .loc n ∧ n < 32 ∧ k < 32 ∧ n ≠ k ∧ lv = .dat b ∧ σ₂ n = .exc0 ∧ σ₂ k = .free ∧ Q .next m (upd (upd (upd σ₂ k (.ns [])) n (.exc k true)) k (.ns [("ball", .dat b)])))))
    (hs : swapsWith value (some (.Attribute o "ball" p')) p.line fx.env = pure false := by rfl) : TX cx fx E d (.Assign [.Attribute o "ball" p'] value p) m σ Q := fun A ρ s ok R =>
  plainObj_wpAny_Assign_Attribute (wpAny_mono (h A ρ s ok R) (fun v s₁ ⟨lv, σ₁, ρ₁, X₁, R₁, r₁, h₁⟩ => wpAny_mono (h₁ A ρ₁ s₁ ok R₁) (fun ov s₂ ⟨lo, σ₂, ρ₂, X₂, R₂, r₂, n, k, b, e, hlt, hk16, hnk, hb, hn, hk, q⟩ => by
    subst e; subst hb
    obtain ⟨a, ea, vs, sl, ga, hv⟩ := named R₂ hn (hl := Nat.lt_trans hlt (by decide))
    obtain rfl := locEq ea r₂
    have X := ok'.K.keeps R₂.base
    have I : InstAt s₂.heap a ⟨.ref 51, none, .fields vs, sl⟩ 51 none := ⟨ga, rfl, rfl, trivial⟩
    refine set_plain X I (by kernel_rfl) (setattrX_code (s := { s₂ with toks := s₂.toks + 1 }) X ga fun hs' t => ?_)
    have rv : LRep ρ₂ s₂.heap (.dat b) v := r₁.ext R₁ X₂
    obtain ⟨N₁, Y₁⟩ := R₂.toRelC.new emptyDict hk (by lia) rfl (ao := .ns []) ⟨[], 0, Heap.get?_push_size _ rfl, trivial⟩
    have hk₁ : setR ρ₂ k s₂.heap.objs.size k = some s₂.heap.objs.size := setR_self ..
    have hn₁ : setR ρ₂ k s₂.heap.objs.size n = some a := by rw [setR_ne hnk]; exact ea
    have ha₁ : (s₂.heap.push emptyDict).get? a = some ⟨.ref 51, none, .fields vs, sl⟩ := Heap.get?_push_of_some _ ga
    have hne : s₂.heap.objs.size ≠ a := Nat.ne_of_gt (Heap.lt_size ga)
    obtain ⟨N₂, Y₂⟩ := N₁.mut (t := s₂.toks + 1) hn₁ (by lia) (Heap.SameBut.update ..) (h' := (s₂.heap.push emptyDict).update a fun o => { o with dict := some s₂.heap.objs.size }) (ao := .exc k true) ⟨_, vs, sl, hk₁, hk16, Heap.get?_update_self _ ha₁ rfl, fun _ => hv⟩
    have hd₂ : ((s₂.heap.push emptyDict).update a fun o => { o with dict := some s₂.heap.objs.size }).get? s₂.heap.objs.size = some emptyDict := (Heap.get?_update_other _ _ (Ne.symm hne)).trans (Heap.get?_push_size _ rfl)
    have R₃ := R₂.next N₂ (Y₁.trans Y₂)
    have rv₃ : LRep _ ((s₂.heap.push emptyDict).update a fun o => { o with dict := some s₂.heap.objs.size }) (.dat b) v := rv.ext R₂ (Y₁.trans Y₂)
    have sb' : Heap.SameBut s₂.heap.objs.size ((s₂.heap.push emptyDict).update a fun o => { o with dict := some s₂.heap.objs.size }) (((s₂.heap.push emptyDict).update a fun o => { o with dict := some s₂.heap.objs.size }).update s₂.heap.objs.size (Obj.putName "ball" hs' (.str "ball" t) v)) := Heap.SameBut.update ..
    obtain ⟨n', e'⟩ := putName_dict "ball" hs' (.str "ball" t) v [] 0
    have e'' : Obj.putName "ball" hs' (.str "ball" t) v emptyDict = dictOf [⟨hs', .str "ball" t, v⟩] n' := e'
    have g₃ := Heap.get?_update_self (Obj.putName "ball" hs' (.str "ball" t) v) hd₂ (by rw [e'']; rfl)
    rw [e''] at g₃
    have C' := mutCarry R₃ hk₁ sb'
    obtain ⟨N₃, Y₃⟩ := N₂.mut (t := s₂.toks + 1 + 1) hk₁ (by lia) sb' (ao := .ns [("ball", .dat b)]) ⟨_, n', g₃, ⟨t, rfl⟩, LRep.carry C' (fun _ _ q _ => nomatch q) rv₃, (fun _ q => nomatch q), trivial⟩
    exact ⟨.next, m, _, _, (X₁.trans (X₂.trans ((Y₁.trans Y₂).trans Y₃))).st, R₃.next N₃ Y₃, trivial, q⟩) fun _ _ x => x) fun _ _ x => x) hs
/-- the raised exceptions' class is called -/
theorem OC_newX (ok' : CxOk cx) {n : Nat} {b : PyData} {Q Q' : LV → Store → Prop} (hn : σ n = .free) (h : TC cx d (.ref 48) [.loc n, .dat b] (upd σ n .exc0) Q' (fun _ => False)) (hQ : ∀ l σ', Q' l σ' → l = .dat .none ∧ Q (.loc n) (mix σ' (upd σ n .exc0))) (hnl : n < 32 := by decide) :
    OC cx fx E (d + 2) (.ref 51) [.dat b] m σ Q := fun A ρ s vs ok R r => by
  have len := r.length
  obtain ⟨hh, g, dr, t, os⟩ := s
  have X := ok'.K.keeps R.base
  refine wpAny_call (callX PySem.F.excBase_Exception X (bm := [.ref 31, .type "Exception", .type "BaseException", .type "object"]) (by decide +kernel) (by decide +kernel) (by decide +kernel) (show _ = some (o51_2 cx.w.params) by kernel_rfl) (f := 48) (by kernel_rfl) (by kernel_rfl) (by rw [← len]; show 1 ≤ sizeLine; decide +kernel) ?_)
  obtain ⟨R₁, X₁⟩ := R.push { cls := .type "tuple", data := .seq vs.toArray } t
  obtain ⟨R₂, X₂⟩ := R₁.toRelC.new { cls := .ref 51, data := .fields #[.ref hh.objs.size, .none, .none, .none, .bool false, .none] } hn (by lia) rfl (ao := .exc0) ⟨_, _, Heap.get?_push_size _ rfl, rfl⟩
  have Y : Ext allN noS ρ hh _ _ := X₁.trans X₂
  have R₃ := R.next R₂ Y
  have r₃ := LReps.ext R Y r
  have sz : ((hh.push { cls := .type "tuple", data := .seq vs.toArray }).objs.size : Nat) = hh.objs.size + 1 := Heap.size_push _ _
  have hA : setR ρ n (hh.push { cls := .type "tuple", data := .seq vs.toArray }).objs.size n = some (hh.objs.size + 1) := by rw [setR_self, sz]
  refine codeAny_mono (callTC (E := E) (Q := fun l σ'' => l = .dat .none ∧ Q (.loc n) σ'') h (fun l hm => ?_) EPass.never (fun l σ' ll q => hQ l σ' q) (cok_under ok 51 vs) ok.fA R₃ (.cons ⟨_, hA, rfl⟩ r₃)) fun r' s' z => ?_
  · rcases List.mem_cons.mp hm with rfl | hm
    · intro j e; cases e; exact hnl
    · rw [List.mem_singleton.mp hm]; intro j e; cases e
  · rcases r' with e | (_ | _ | _ | v)
    · exact z
    · exact z
    · exact z
    · exact z
    · obtain ⟨l, σ', ρ', X', R', r', rfl, q⟩ := z
      obtain rfl := of_none r'
      exact ⟨rfl, .loc n, σ', ρ', Y.trans X', R', ⟨_, X'.le n _ trivial hA, rfl⟩, q⟩
/-- raise -/
theorem X_raise (ok' : CxOk cx) {e : Expr} {p : Pos} {X : PyData → Prop} {Q : Fl → Locals → Store → Prop} (hd : 0 < d) (h : TE cx fx (EX cx fx X) d e m σ (fun l σ₁ => ∃ n k b, l = .loc n ∧ n < 32 ∧ σ₁ n = .exc k true ∧ σ₁ k = .ns [("ball", .dat b)] ∧ X b)) : TX cx fx (EX cx fx X) d (.Raise (some e) none p) m σ Q := fun A ρ s ok R => by
  have hh := ok.handled.resolve_left (by lia)
  have e51 : (KF cx.w.params).lookup 51 = some (o51_2 cx.w.params) := by kernel_rfl
  have key : wpAny (model PW cx.w) A (raiseStmt fx.env (some (do let v ← eval e fx.env; standAt p; pure v)) none) (SP cx fx ρ s Q) (EX cx fx X) s := by
    unfold raiseStmt
    refine wpAny_bind (wpAny_bind (wpAny_mono (h A ρ s ok R) (fun v s₁ ⟨l, σ₁, ρ₁, X₁, R₁, r₁, n, k, b, hl, hlt, hn, hk, hX⟩ => wpAny_bind (wpAny_standAt (wpAny_pure ?_))) fun _ _ x => x))
    subst hl
    obtain ⟨a, ea, dd, vs, sl, e1, e2, ga, h1⟩ := named R₁ hn (hl := Nat.lt_trans hlt (by decide))
    obtain rfl := locEq ea r₁
    have fin := EX.raise R₁ ok.fA hn hk (Nat.lt_trans hlt (by decide)) ea hX
    have hC := (ok'.K.keeps R₁.base) _ _ e51
    obtain ⟨dd', ed, es, j, gd, F⟩ := named R₁ hk (hl := Nat.lt_trans e2 (by decide))
    rw [e1] at ed; cases ed
    have I : InstAt s₁.heap a ⟨.ref 51, some dd, .fields vs, sl⟩ 51 (some (dictOf es j)) := ⟨ga, rfl, rfl, gd⟩
    have X := ok'.K.keeps R₁.base
    have L0 := I.type (M := model PW cx.w)
    have L1 : Looks (model PW cx.w) s₁.heap (isInstance (.ref a) (.type "BaseException")) true := L0.andThen (looks_mroIn X (by kernel_rfl))
    have L2 : Looks (model PW cx.w) s₁.heap (isSubtype (.ref 51) (.type "type")) false := looks_mroIn X (by kernel_rfl)
    have L3 : Looks (model PW cx.w) s₁.heap (typeOf (.ref 51)) (.type "type") := looks_typeIn X (by kernel_rfl)
    have L4 : Looks (model PW cx.w) s₁.heap (isType (.ref a)) false := by
      show Looks _ _ (loadHead a >>= _) _
      exact (Looks.ld ga).andThen .now
    clear gd hk F
    refine wpAny_bind (wpAny_pure (wpAny_bind (wpAny_holding ?_)))
    unfold excFromValue isExcClass
    refine wpAny_bind (wpAny_bind (L4.here (wpAny_pure (wpAny_bind (L1.here (wpAny_pure ?_))))))
    refine wpAny_bind (L4.here (wpAny_bind ?_))
    refine wpAny_bind (m := typeOf _) (L0.here (wpAny_bind (m := typeOf _) (L3.here (wpAny_pure ?_))))
    refine wpAny_bind (wpAny_bind (wpAny_field ga rfl (h1 rfl) ?_))
    rw [if_neg (by decide)]
    refine wpAny_pure (wpAny_raiseNew_none hh fin)
  rw [arm_exec_Raise]
  simp only [evalOpt, Option.map]
  exact wpAny_bind (wpAny_standAt key)
/-- the ball of a caught exception -/
theorem T_attrX (ok' : CxOk cx) {o : Expr} {p : Pos} {Q : LV → Store → Prop} (h : TE cx fx E d o m σ (fun l σ₁ => ∃ n k t b, l = .loc n ∧ n < 32 ∧ σ₁ n = .exc k t ∧ σ₁ k = .ns [("ball", .dat b)] ∧ Q (.dat b) σ₁))
    (he : eval (.Attribute o "ball" p) fx.env = (do
      let o' ← eval o fx.env
      standAt p.atName
      let r ← holding [o'] (getAttr o' "ball" true)
      letTemporaryGo o o' r
      pure r) := by with_unfolding_all rfl) : TE cx fx E d (.Attribute o "ball" p) m σ Q := fun A ρ s ok R =>
  Attribute_any_ (wpAny_mono (h A ρ s ok R) (fun v s₁ ⟨l, σ₁, ρ₁, X₁, R₁, r₁, n, k, t, b, hl, hlt, hn, hk, q⟩ => by
    subst hl
    obtain ⟨a, ea, dd, vs, sl, e1, e2, ga, _⟩ := named R₁ hn (hl := Nat.lt_trans hlt (by decide))
    obtain rfl := locEq ea r₁
    obtain ⟨dd', ed, es, j, gd, F⟩ := named R₁ hk (hl := Nat.lt_trans e2 (by decide))
    rw [e1] at ed; cases ed
    have I : InstAt s₁.heap a ⟨.ref 51, some dd, .fields vs, sl⟩ 51 (some (dictOf es j)) := ⟨ga, rfl, rfl, gd⟩
    obtain ⟨v, gv, rv⟩ := F.get (show lk [(("ball" : Str), LV.dat b)] "ball" = some (.dat b) by rw [lk_cons, if_pos rfl])
    exact get_valueX (ok'.K.keeps R₁.base) I (by kernel_rfl) (by kernel_rfl) (by kernel_rfl) (findObj_own (attr := none) (by kernel_rfl) (by kernel_rfl) (by kernel_rfl) gv) (handed (fun _ q => by cases q) rv) (VP.up X₁ (VP.here R₁ rv q _))) fun _ _ x => x) he
end
end Mine
open PySem PySem.W PySem.Spec PySem.Calls PyProof.Rows
namespace Mine
theorem Own.exE {cx : Cx} {fx : Fx} {E : Value → Shared → Prop} {X : PyData → Prop} (e : E = EX cx fx X) : Own cx fx E := e ▸ .ex
/-! the numbers of names -/
noncomputable def numF {α : Type} : Nat → List α → List (α × Int)
  | _, [] => []
  | k, x :: r => (x, (k : Int)) :: numF (k + 1) r
noncomputable def numL {α : Type} (xs : List α) : List (α × Int) := numF 0 xs
theorem numF_snoc {α : Type} (x : α) : ∀ (xs : List α) (k : Nat), numF k (xs ++ [x]) = numF k xs ++ [(x, ((k + xs.length : Nat) : Int))]
  | [], k => rfl
  | y :: r, k => by
    show (y, (k : Int)) :: numF (k + 1) (r ++ [x]) = _
    rw [numF_snoc x r (k + 1)]
    show _ = (y, (k : Int)) :: (numF (k + 1) r ++ _)
    rw [show k + 1 + r.length = k + (y :: r).length by simp; lia]
theorem numL_snoc {α : Type} (xs : List α) (x : α) : numL (xs ++ [x]) = numL xs ++ [(x, (xs.length : Int))] := by
  unfold numL
  rw [numF_snoc, Nat.zero_add]
theorem numF_len {α : Type} : ∀ (xs : List α) (k : Nat), (numF k xs).length = xs.length
  | [], _ => rfl
  | _ :: r, k => congrArg Nat.succ (numF_len r (k + 1))
theorem numF_get {α : Type} [DecidableEq α] {x : α} : ∀ {xs : List α} {k : Nat} {i : Int}, dget (numF k xs) x = some i → (k : Int) ≤ i ∧ i < k + xs.length ∧ xs[(i - k).toNat]? = some x
  | [], _, _, h => by cases h
  | y :: r, k, i, h => by
    have h' : (if y = x then some (k : Int) else dget (numF (k + 1) r) x) = some i := by rw [← h]; exact (dget_cons (y, (k : Int)) _ x).symm
    by_cases e : y = x
    · rw [if_pos e] at h'; cases h'
      subst e
      refine ⟨by lia, by simp; lia, by simp⟩
    · rw [if_neg e] at h'
      obtain ⟨a, b, c⟩ := numF_get h'
      refine ⟨by lia, by simp; lia, ?_⟩
      rw [show (i - (k : Int)).toNat = (i - ((k + 1 : Nat) : Int)).toNat + 1 by lia]
      simpa using c
theorem numL_get {α : Type} [DecidableEq α] {x : α} {xs : List α} {i : Int} (h : dget (numL xs) x = some i) : 0 ≤ i ∧ i < xs.length ∧ xs[i.toNat]? = some x := by
  obtain ⟨a, b, c⟩ := numF_get h
  exact ⟨by simpa using a, by simpa using b, by simpa using c⟩
theorem dget_app {K V : Type} [DecidableEq K] (D : List (K × V)) (p : K × V) (x : K) : dget (D ++ [p]) x = (dget D x).or (if p.1 = x then some p.2 else none) := by
  induction D with
  | nil => rw [List.nil_append, dget_cons, dget_nil]; rfl
  | cons q D ih =>
    rw [List.cons_append, dget_cons, dget_cons, ih]
    by_cases h : q.1 = x <;> simp [h]
structure Sy where
  texts : List Str
  funs : List (List Int)
noncomputable def Sy.atom (S : Sy) (x : Str) : Sy × Int := match dget (numL S.texts) x with
  | some i => (S, i)
  | none => (⟨S.texts ++ [x], S.funs⟩, (S.texts.length : Int))
noncomputable def Sy.functor (S : Sy) (a n : Int) : Sy × Int := match dget (numL S.funs) [a, n] with
  | some i => (S, i)
  | none => (⟨S.texts, S.funs ++ [[a, n]]⟩, (S.funs.length : Int))
noncomputable def Sy.func (S : Sy) (x : Str) (n : Int) : Sy × Int := (S.atom x).1.functor (S.atom x).2 n
noncomputable def Sy.size (S : Sy) : Nat := S.texts.length + S.funs.length
noncomputable def symNs : List (Str × LV) := [("texts", .loc 3), ("atom_numbers", .loc 4), ("functors", .loc 5), ("functor_numbers", .loc 6)]
noncomputable def tup (ks : List Int) : PyData := .tuple (ks.map .int)
structure SymAt (σ : Store) (S : Sy) : Prop where
  s1 : σ 1 = .inst 154 2
  s2 : σ 2 = .ns symNs
  s3 : σ 3 = .list (S.texts.map .str)
  s4 : σ 4 = .sdict (numL S.texts)
  s5 : σ 5 = .list (S.funs.map tup)
  s6 : σ 6 = .tdict (numL S.funs)
  nod : S.funs.Nodup
/-! lists of names, checked by evaluation -/
noncomputable def memB (n : Nat) : List Nat → Bool
  | [] => false
  | x :: r => Nat.beq n x || memB n r
noncomputable def subB : List Nat → List Nat → Bool
  | [], _ => true
  | x :: r, M => memB x M && subB r M
noncomputable def disB : List Nat → List Nat → Bool
  | [], _ => true
  | x :: r, M => !memB x M && disB r M
theorem memB_iff {n : Nat} : ∀ {L : List Nat}, memB n L = true ↔ n ∈ L
  | [] => ⟨fun h => absurd h Bool.false_ne_true, fun h => absurd h List.not_mem_nil⟩
  | x :: r => by
    show (Nat.beq n x || memB n r) = true ↔ _
    rw [Bool.or_eq_true, memB_iff, List.mem_cons, Nat.beq_eq]
theorem memB_not {n : Nat} {L : List Nat} (h : (!memB n L) = true) : n ∉ L := fun k => by rw [memB_iff.mpr k] at h; exact Bool.false_ne_true h
theorem subB_ok {M : List Nat} : ∀ {L : List Nat}, subB L M = true → ∀ n ∈ L, n ∈ M
  | x :: r, h, n, k => by
    have h' : (memB x M && subB r M) = true := h
    rw [Bool.and_eq_true] at h'
    rcases List.mem_cons.mp k with e | k
    · rw [e]; exact memB_iff.mp h'.1
    · exact subB_ok h'.2 n k
theorem disB_ok {M : List Nat} : ∀ {L : List Nat}, disB L M = true → ∀ n ∈ L, n ∉ M
  | x :: r, h, n, k => by
    have h' : (!memB x M && disB r M) = true := h
    rw [Bool.and_eq_true] at h'
    rcases List.mem_cons.mp k with e | k
    · rw [e]; exact memB_not h'.1
    · exact disB_ok h'.2 n k
noncomputable def Off (L : List Nat) (σ σ' : Store) : Prop := ∀ n, n < 32 → n ∉ L → σ' n = σ n
theorem Off.refl {L : List Nat} {σ : Store} : Off L σ σ := fun _ _ _ => rfl
theorem Off.low {L : List Nat} {σ : Store} : Off L σ (low σ) := fun _ h _ => low_lt h
theorem Off.upd' {L : List Nat} {σ τ : Store} {n : Nat} {o : AO} (h : Off L σ τ) (hn : n ∈ L ∨ 32 ≤ n) : Off L σ (upd τ n o) := fun k hk hl => (upd_ne fun e => by subst e; rcases hn with hn | hn; exact hl hn; lia).trans (h k hk hl)
theorem Off.upd {L : List Nat} {σ τ : Store} {n : Nat} {o : AO} (h : Off L σ τ) (hn : (memB n L || Nat.ble 32 n) = true) : Off L σ (upd τ n o) := h.upd' ((Bool.or_eq_true _ _ ▸ hn).imp memB_iff.mp Nat.le_of_ble_eq_true)
theorem Off.mix {L : List Nat} {σ τ τ' : Store} (h : Off L σ τ) (k : Off L τ τ') : Off L σ (mix τ' τ) := fun n hn hl => (mix_lt hn).trans ((k n hn hl).trans (h n hn hl))
theorem Off.trans {L : List Nat} {σ τ τ' : Store} (h : Off L σ τ) (k : Off L τ τ') : Off L σ τ' := fun n hn hl => (k n hn hl).trans (h n hn hl)
theorem Off.mono' {L M : List Nat} {σ τ : Store} (h : Off L σ τ) (k : ∀ n ∈ L, n ∈ M) : Off M σ τ := fun n hn hl => h n hn fun q => hl (k n q)
theorem Off.mono {L M : List Nat} {σ τ : Store} (h : Off L σ τ) (k : subB L M = true) : Off M σ τ := h.mono' (subB_ok k)
theorem Off.at1 {L : List Nat} {σ τ : Store} (h : Off L σ τ) (n : Nat) (k : (Nat.blt n 32 && !memB n L) = true) : τ n = σ n := h n (by have := (Bool.and_eq_true _ _ ▸ k).1; simpa [Nat.blt_eq] using this) (memB_not (Bool.and_eq_true _ _ ▸ k).2)
theorem SymAt.off' {L : List Nat} {σ τ : Store} {S : Sy} (h : SymAt σ S) (o : Off L σ τ) (hl : ∀ n ∈ [1, 2, 3, 4, 5, 6], n ∉ L) : SymAt τ S :=
  ⟨(o 1 (by decide) (hl 1 (by decide))).trans h.s1, (o 2 (by decide) (hl 2 (by decide))).trans h.s2, (o 3 (by decide) (hl 3 (by decide))).trans h.s3, (o 4 (by decide) (hl 4 (by decide))).trans h.s4, (o 5 (by decide) (hl 5 (by decide))).trans h.s5, (o 6 (by decide) (hl 6 (by decide))).trans h.s6, h.nod⟩
theorem SymAt.off {L : List Nat} {σ τ : Store} {S : Sy} (h : SymAt σ S) (o : Off L σ τ) (hl : disB [1, 2, 3, 4, 5, 6] L = true) : SymAt τ S := h.off' o (disB_ok hl)
theorem SymAt.low {σ : Store} {S : Sy} (h : SymAt σ S) : SymAt (Mine.low σ) S := ⟨h.s1, h.s2, h.s3, h.s4, h.s5, h.s6, h.nod⟩
theorem SymAt.mix {σ τ : Store} {S : Sy} (h : SymAt τ S) : SymAt (Mine.mix τ σ) S := ⟨h.s1, h.s2, h.s3, h.s4, h.s5, h.s6, h.nod⟩
theorem SymAt.upd {σ : Store} {S : Sy} (h : SymAt σ S) {n : Nat} {o : AO} (hn : n = 0 ∨ 6 < n := by decide) : SymAt (Mine.upd σ n o) S :=
  ⟨(upd_ne (by lia)).trans h.s1, (upd_ne (by lia)).trans h.s2, (upd_ne (by lia)).trans h.s3, (upd_ne (by lia)).trans h.s4, (upd_ne (by lia)).trans h.s5, (upd_ne (by lia)).trans h.s6, h.nod⟩
theorem fa154 (w : World) {name : Str} (h : name = "texts" ∨ name = "atom_numbers" ∨ name = "functors" ∨ name = "functor_numbers") : FA w 154 name := by
  rcases h with rfl | rfl | rfl | rfl <;> exact ⟨by kernel_rfl, by kernel_rfl, none, by kernel_rfl, by kernel_rfl⟩
theorem locLow {n : Nat} (h : n < 32) : LowL (.loc n) := fun k e => by cases e; exact h
theorem datLow (d : PyData) : LowL (.dat d) := fun k e => by cases e
noncomputable def lowB1 : LV → Bool
  | .loc n => Nat.blt n 32
  | .dat _ => true
  | .con _ => false
noncomputable def lowB : List LV → Bool
  | [] => true
  | l :: r => lowB1 l && lowB r
theorem lowOk1 : ∀ {l : LV}, lowB1 l = true → LowL l
  | .loc n, h => locLow (Nat.blt_eq.mp h)
  | .dat d, _ => datLow d
theorem lowOk : ∀ {ls : List LV}, lowB ls = true → ∀ l ∈ ls, LowL l
  | x :: r, h, l, k => by
    have h' : (lowB1 x && lowB r) = true := h
    rw [Bool.and_eq_true] at h'
    rcases List.mem_cons.mp k with e | k
    · rw [e]; exact lowOk1 h'.1
    · exact lowOk h'.2 l k
section
variable {cx : Cx} {fx : Fx} {E : Value → Shared → Prop} {d : Nat} {m : Locals} {σ : Store}
/-- an attribute of the symbols -/
theorem T_sym (ok : CxOk cx) {x : Str} {np p : Pos} {name : Str} {k : Nat} {Q : LV → Store → Prop} (hx : lk m x = some (.loc 1)) (h1 : σ 1 = .inst 154 2) (h2 : σ 2 = .ns symNs) (hl : lk symNs name = some (.loc k)) (q : Q (.loc k) σ)
    (hn : name = "texts" ∨ name = "atom_numbers" ∨ name = "functors" ∨ name = "functor_numbers") (hb : locB fx x = true := by exact tT)
    (he : eval (.Attribute (.Name x np) name p) fx.env = (do
      let o' ← eval (.Name x np) fx.env
      standAt p.atName
      let r ← holding [o'] (getAttr o' name true)
      letTemporaryGo (.Name x np) o' r
      pure r) := by with_unfolding_all rfl) : TE cx fx E d (.Attribute (.Name x np) name p) m σ Q :=
  T_attr ok (T_name hx ⟨1, 154, 2, symNs, .loc k, rfl, h1, h2, hl, fa154 _ hn, by decide, (fun c e => by cases e), q⟩ hb) he
end
theorem g_len (P : Params) : nsIn (KF P) mainGlobals "len" = some none := by kernel_rfl
theorem b_len : bootBuiltins "len" = some (.builtin "len") := by kernel_rfl
section
variable {cx : Cx} {fx : Fx} {E : Value → Shared → Prop} {d : Nat} {m : Locals} {σ : Store}
inductive LenP (Q : LV → Store → Prop) (l : LV) (σ : Store) : Prop where
  | mk (xs : List PyData) (h : l = .dat (.list xs) ∨ l = .dat (.tuple xs) ∨ ∃ n, l = .loc n ∧ n < 1000 ∧ σ n = .list xs) (z : xs.length < 2 ^ 62) (q : Q (.dat (.int xs.length)) σ)
theorem T_len (ok : CxOk cx) {np pos : Pos} {e : Expr} {Q : LV → Store → Prop} (h : TE cx fx E d e m σ (LenP Q))
    (he : starEach [e] fx.env = (false, eval e fx.env) :: starEach [] fx.env := by rfl) (hp : Plain fx pos [e] := by rfl) (hb : gloB fx "len" = true := by exact tT) : TE cx fx E d (.Call (.Name "len" np) [e] [] pos) m σ Q :=
  T_callB ok (g_len _) b_len (by decide +kernel) (.inr ⟨_, rfl⟩) (Ts_cons (h.mono fun l σ' ⟨xs, h1, h2, q⟩ => Ts_nil (OC_len h1 h2 q)) he) hp hb
end
section
variable {cx : Cx} {σ : Store}
theorem c_atom (ok : CxOk cx) {S : Sy} (hS : SymAt σ S) (hz : S.size ≤ 100000) (x : Str) : TC cx 0 (.ref 88) [.loc 1, .dat (.str x)] σ (fun l σ' => l = .dat (.int (S.atom x).2) ∧ SymAt σ' (S.atom x).1 ∧ Off [3, 4] σ σ') (fun _ => False) := by
  refine TC_fn (d := 0) (ls := [.loc 1, .dat (.str x)]) ok (show _ = some (o88_4 cx.w.params) by kernel_rfl) (by kernel_rfl) ["self", "text"] ?_ ?_ (by decide) ?_ ?_
  · exact bnd2 fun _ _ _ => BindsTo.of_eq rfl
  · decide +kernel
  · intro L outer ρ0 h0 A
    have hS' := hS.low
    have hz' : S.texts.length ≤ 100000 := by unfold Sy.size at hz; lia
    unfold Sy.atom
    refine S_cons (X_assign (T_methB PySem.F.plainAttrs_dict PySem.F.slot_dict_get PySem.F.type_dict_get (T_sym ok rfl hS'.s1 hS'.s2 rfl ⟨4, rfl, by rw [hS'.s4]; rfl, by decide, Ts_cons (T_name rfl (Ts_cons (T_neg (T_cint ⟨_, rfl, Ts_nil (OC_getS ok hS'.s4 ?_)⟩))))⟩ (by decide))))
    cases hg : dget (numL S.texts) x with
    | some i =>
      refine S_cons (X_if (TT_cmp (T_name rfl (T_cint (O_ge ⟨_, rfl, fun h => ?_, fun h => ?_⟩)))))
      · exact S_cons (X_ret (T_name rfl ⟨datLow _, rfl, hS', .low⟩))
      · exact absurd h (by simpa using (numL_get hg).1)
    | none =>
      refine S_cons (X_if (TT_cmp (T_name rfl (T_cint (O_ge ⟨_, rfl, fun h => absurd h (by decide), fun h => S_nil ?_⟩)))))
      refine S_cons (X_assign (T_len ok (T_sym ok rfl hS'.s1 hS'.s2 rfl ⟨_, .inr (.inr ⟨3, rfl, by decide, hS'.s3⟩), by rw [List.length_map]; lia, ?_⟩ (by decide))))
      refine S_cons (X_expr (T_methB PySem.F.plainAttrs_list PySem.F.slot_list_append PySem.F.type_list_append (T_sym ok rfl hS'.s1 hS'.s2 rfl ⟨3, rfl, by rw [hS'.s3]; rfl, by decide, Ts_cons (T_name rfl (Ts_nil (OC_append hS'.s3 (by rw [List.length_map]; lia) ⟨rfl, ?_⟩)))⟩ (by decide))))
      refine S_cons (X_sub (T_name rfl (T_sym ok rfl hS'.s1 hS'.s2 rfl (T_name rfl (OU_S (n := 4) hS'.s4 hg (by unfold numL; rw [numF_len]; lia) ?_)) (by decide))))
      refine S_cons (X_ret (T_name rfl ⟨datLow _, by rw [List.length_map], ⟨hS'.s1, hS'.s2, ?_, ?_, hS'.s5, hS'.s6, hS'.nod⟩, (Off.low.upd (by exact tT)).upd (by exact tT)⟩))
      · show AO.list (S.texts.map .str ++ [.str x]) = AO.list ((S.texts ++ [x]).map .str)
        rw [List.map_append]; rfl
      · show AO.sdict (numL S.texts ++ [(x, ((S.texts.map PyData.str).length : Int))]) = AO.sdict (numL (S.texts ++ [x]))
        rw [numL_snoc, List.length_map]
  · decide +kernel
noncomputable abbrev symFns : List (Str × Addr) := [(("atom" : Str), 88), ("functor", 102), ("func", 109), ("name", 116)]
theorem fm154 (w : World) {name : Str} {f : Addr} (h : (name, f) ∈ symFns) : FM w 154 name f := by
  simp only [symFns, List.mem_cons, List.not_mem_nil, or_false, Prod.mk.injEq] at h
  rcases h with ⟨rfl, rfl⟩ | ⟨rfl, rfl⟩ | ⟨rfl, rfl⟩ | ⟨rfl, rfl⟩ <;> exact ⟨by kernel_rfl, by kernel_rfl, by kernel_rfl, by kernel_rfl⟩
theorem nodup_snoc {α : Type} [DecidableEq α] {xs : List α} {x : α} (h : xs.Nodup) (hx : dget (numL xs) x = none) : (xs ++ [x]).Nodup := by
  have key : ∀ {xs : List α} {k : Nat}, dget (numF k xs) x = none → x ∉ xs := by
    intro xs
    induction xs with
    | nil => intro k _ h; cases h
    | cons y r ih =>
      intro k h hm
      have h' : (if y = x then some (k : Int) else dget (numF (k + 1) r) x) = none := by rw [← h]; exact (dget_cons (y, (k : Int)) _ x).symm
      by_cases e : y = x
      · rw [if_pos e] at h'; cases h'
      · rw [if_neg e] at h'
        rcases List.mem_cons.mp hm with rfl | hm
        · exact e rfl
        · exact ih h' hm
  rw [List.nodup_append]
  exact ⟨h, by simp, fun a ha b hb e => by rw [List.mem_singleton.mp hb] at e; exact key hx (e ▸ ha)⟩
theorem c_functor (ok : CxOk cx) {S : Sy} (hS : SymAt σ S) (hz : S.size ≤ 100000) (a n : Int) : TC cx 0 (.ref 102) [.loc 1, .dat (.int a), .dat (.int n)] σ (fun l σ' => l = .dat (.int (S.functor a n).2) ∧ SymAt σ' (S.functor a n).1 ∧ Off [5, 6] σ σ') (fun _ => False) := by
  refine TC_fn (d := 0) (ls := [.loc 1, .dat (.int a), .dat (.int n)]) ok (show _ = some (o102_4 cx.w.params) by kernel_rfl) (by kernel_rfl) ["self", "atom", "arity"] ?_ ?_ (by decide) ?_ ?_
  · exact bnd3 fun _ _ _ _ => BindsTo.of_eq rfl
  · decide +kernel
  · intro L outer ρ0 h0 A
    have hS' := hS.low
    have hz' : S.funs.length ≤ 100000 := by unfold Sy.size at hz; lia
    unfold Sy.functor
    refine S_cons (X_assign (T_tuple (Ts_cons (T_name rfl (Ts_cons (T_name rfl (Ts_nil ⟨[.int a, .int n], rfl, leT tT, ?_⟩)))))))
    refine S_cons (X_assign (T_methB PySem.F.plainAttrs_dict PySem.F.slot_dict_get PySem.F.type_dict_get (T_sym ok rfl hS'.s1 hS'.s2 rfl ⟨6, rfl, by rw [hS'.s6]; rfl, by decide, Ts_cons (T_name rfl (Ts_cons (T_neg (T_cint ⟨_, rfl, Ts_nil (OC_getT (x := [a, n]) ok hS'.s6 ?_)⟩))))⟩ (by decide))))
    cases hg : dget (numL S.funs) [a, n] with
    | some i =>
      refine S_cons (X_if (TT_cmp (T_name rfl (T_cint (O_ge ⟨_, rfl, fun h => ?_, fun h => ?_⟩)))))
      · exact S_cons (X_ret (T_name rfl ⟨datLow _, rfl, hS', .low⟩))
      · exact absurd h (by simpa using (numL_get hg).1)
    | none =>
      refine S_cons (X_if (TT_cmp (T_name rfl (T_cint (O_ge ⟨_, rfl, fun h => absurd h (by decide), fun h => S_nil ?_⟩)))))
      refine S_cons (X_assign (T_len ok (T_sym ok rfl hS'.s1 hS'.s2 rfl ⟨_, .inr (.inr ⟨5, rfl, by decide, hS'.s5⟩), by rw [List.length_map]; lia, ?_⟩ (by decide))))
      refine S_cons (X_expr (T_methB PySem.F.plainAttrs_list PySem.F.slot_list_append PySem.F.type_list_append (T_sym ok rfl hS'.s1 hS'.s2 rfl ⟨5, rfl, by rw [hS'.s5]; rfl, by decide, Ts_cons (T_name rfl (Ts_nil (OC_append hS'.s5 (by rw [List.length_map]; lia) ⟨rfl, ?_⟩)))⟩ (by decide))))
      refine S_cons (X_sub (T_name rfl (T_sym ok rfl hS'.s1 hS'.s2 rfl (T_name rfl (OU_T (n := 6) (x := [a, n]) hS'.s6 hg (by unfold numL; rw [numF_len]; lia) ?_)) (by decide))))
      refine S_cons (X_ret (T_name rfl ⟨datLow _, by rw [List.length_map], ⟨hS'.s1, hS'.s2, hS'.s3, hS'.s4, ?_, ?_, nodup_snoc hS'.nod hg⟩, (Off.low.upd (by exact tT)).upd (by exact tT)⟩))
      · show AO.list (S.funs.map tup ++ [.tuple [.int a, .int n]]) = AO.list ((S.funs ++ [[a, n]]).map tup)
        rw [List.map_append]; rfl
      · show AO.tdict (numL S.funs ++ [([a, n], ((S.funs.map tup).length : Int))]) = AO.tdict (numL (S.funs ++ [[a, n]]))
        rw [numL_snoc, List.length_map]
  · decide +kernel
theorem Sy.atom_size (S : Sy) (x : Str) : (S.atom x).1.size ≤ S.size + 1 := by
  unfold Sy.atom
  cases dget (numL S.texts) x with
  | some i => exact Nat.le_succ _
  | none => simp [Sy.size]; lia
theorem Sy.functor_size (S : Sy) (a n : Int) : (S.functor a n).1.size ≤ S.size + 1 := by
  unfold Sy.functor
  cases dget (numL S.funs) [a, n] with
  | some i => exact Nat.le_succ _
  | none => simp [Sy.size]; lia
theorem Sy.func_size (S : Sy) (x : Str) (n : Int) : (S.func x n).1.size ≤ S.size + 2 := by
  have h1 := S.atom_size x
  have h2 := (S.atom x).1.functor_size (S.atom x).2 n
  unfold Sy.func; lia
/-- a method of the symbols -/
theorem T_symM {fx : Fx} {E : Value → Shared → Prop} {d : Nat} {m : Locals} (ok : CxOk cx) {x : Str} {np ap pos : Pos} {name : Str} {f : Addr} {es : List Expr} {Q : LV → Store → Prop} (hx : lk m x = some (.loc 1)) (h1 : σ 1 = .inst 154 2) (h2 : σ 2 = .ns symNs) (hl : lk symNs name = none)
    (h : TEs cx fx E d pos es m σ (CallM cx fx E d (.ref f) 1 m Q)) (hf : (name, f) ∈ symFns) (hp : Plain fx pos es := by rfl)
    (hb : locB fx x = true := by exact tT)
    (he : eval (.Call (.Attribute (.Name x np) name ap) es [] pos) fx.env = (do
      let ov ← eval (.Name x np) fx.env
      standAt ap.atName
      let (f, first) ← holding [ov] (getMethod ov name (do return (← importBound (.Name x np) fx.env).getD true))
      callWith pos f first (backTo pos (starEach es fx.env)) (backToKw pos (keywordEach [] fx.env))) := by rfl) : TE cx fx E d (.Call (.Attribute (.Name x np) name ap) es [] pos) m σ Q :=
  T_meth ok (T_name hx ⟨1, 154, 2, symNs, f, rfl, h1, h2, hl, fm154 _ hf, by decide, h⟩ hb) hp he
theorem c_func (ok : CxOk cx) {S : Sy} (hS : SymAt σ S) (hz : S.size ≤ 90000) (x : Str) (n : Int) : TC cx 1 (.ref 109) [.loc 1, .dat (.str x), .dat (.int n)] σ (fun l σ' => l = .dat (.int (S.func x n).2) ∧ SymAt σ' (S.func x n).1 ∧ Off [3, 4, 5, 6] σ σ') (fun _ => False) := by
  refine TC_fn2 (d := 1) (ls := [.loc 1, .dat (.str x), .dat (.int n)]) ok (show _ = some (o109_4 cx.w.params) by kernel_rfl) (by kernel_rfl) ["self", "text", "arity"] ?_ ?_ (by decide) ?_ ?_
  · exact bnd3 fun _ _ _ _ => BindsTo.of_eq rfl
  · decide +kernel
  · intro fD fE fK eE kR kN
    have hS' := hS.low
    refine S_cons (X_retK kR (T_symM (f := 102) ok rfl hS'.s1 hS'.s2 rfl (Ts_cons (T_symM (f := 88) ok rfl hS'.s1 hS'.s2 rfl (Ts_cons (T_name rfl (Ts_nil (OC_e2 (c_atom ok hS' (by lia) x) (lowOk (by exact tT)) .never fun σ' _ hS₁ ho => ?_)))) (by decide))) (by decide)))
    refine Ts_cons (T_name rfl (Ts_nil (OC_e2 (c_functor ok hS₁.mix (by have := S.atom_size x; lia) _ n) (lowOk (by exact tT)) .never fun σ'' ll hS₂ ho₂ => ?_)))
    exact ⟨datLow _, rfl, hS₂.mix, ((Off.low.mix (ho.mono (by exact tT))).mix (ho₂.mono (by exact tT)))⟩
  · decide +kernel
theorem c_name (ok : CxOk cx) {S : Sy} (hS : SymAt σ S) (hz : S.size ≤ 100000) {f : Int} {a : Int} {r : List Int} (h0 : 0 ≤ f) (hf : S.funs[f.toNat]? = some (a :: r)) : TC cx 0 (.ref 116) [.loc 1, .dat (.int f)] σ (fun l σ' => l = .dat (.int a) ∧ Off [] σ σ') (fun _ => False) := by
  refine TC_fn2 (d := 0) (ls := [.loc 1, .dat (.int f)]) ok (show _ = some (o116_4 cx.w.params) by kernel_rfl) (by kernel_rfl) ["self", "functor"] ?_ ?_ (by decide) ?_ ?_
  · exact bnd2 fun _ _ _ => BindsTo.of_eq rfl
  · decide +kernel
  · intro fD fE fK eE kR kN
    have hS' := hS.low
    have hlt := (List.getElem?_eq_some_iff.mp hf).1
    refine S_cons (X_retK kR (T_sub (T_sub (T_sym ok rfl hS'.s1 hS'.s2 rfl (T_name rfl (O_itemN (x := tup (a :: r)) hS'.s5 h0 (by rw [List.getElem?_map, hf]; rfl) ?_ (by unfold Sy.size at hz; lia))) (by decide)))))
    exact T_cint (O_itemT (x := .int a) (by decide) rfl ⟨datLow _, rfl, .low⟩)
  · decide +kernel
end
/-! terms -/
inductive Tm where
  | int (k : Int)
  | atom (n : Int)
  | var (k : Int)
  | s1 (f : Int) (x : Tm)
  | s2 (f : Int) (x y : Tm)
noncomputable def Tm.enc : Tm → PyData
  | .int k => .tuple [.str "i", .int k]
  | .atom n => .tuple [.str "a", .int n]
  | .var k => .tuple [.str "v", .int k]
  | .s1 f x => .tuple [.str "s", .int f, .tuple [x.enc]]
  | .s2 f x y => .tuple [.str "s", .int f, .tuple [x.enc, y.enc]]
noncomputable def Tm.size : Tm → Nat
  | .s1 _ x => x.size + 1
  | .s2 _ x y => x.size + y.size + 1
  | _ => 1
noncomputable def Tm.tag : Tm → Str
  | .int _ => "i"
  | .atom _ => "a"
  | .var _ => "v"
  | _ => "s"
noncomputable def Tm.num : Tm → Int
  | .int k => k
  | .atom n => n
  | .var k => k
  | .s1 f _ => f
  | .s2 f _ _ => f
noncomputable def Tm.args : Tm → List PyData
  | .s1 _ x => [x.enc]
  | .s2 _ x y => [x.enc, y.enc]
  | _ => []
theorem Tm.enc_eq (t : Tm) : ∃ r, t.enc = .tuple (.str t.tag :: .int t.num :: r) ∧ (sb t.tag "s" = true → r = [.tuple t.args]) := by
  cases t <;> first | exact ⟨_, rfl, fun _ => rfl⟩ | exact ⟨_, rfl, fun h => absurd h Bool.false_ne_true⟩
section
variable {cx : Cx} {fx : Fx} {E : Value → Shared → Prop} {d : Nat} {m : Locals} {σ : Store}
inductive TagP (Q : LV → Store → Prop) (l : LV) (σ : Store) : Prop where
  | mk (t : Tm) (e : l = .dat t.enc) (q : Q (.dat (.str t.tag)) σ)
inductive NumP (Q : LV → Store → Prop) (l : LV) (σ : Store) : Prop where
  | mk (t : Tm) (e : l = .dat t.enc) (q : Q (.dat (.int t.num)) σ)
inductive ArgsP (Q : LV → Store → Prop) (l : LV) (σ : Store) : Prop where
  | mk (t : Tm) (e : l = .dat t.enc) (h : sb t.tag "s" = true) (q : Q (.dat (.tuple t.args)) σ)
inductive It0P (Q : LV → Store → Prop) (l : LV) (σ : Store) : Prop where
  | mk (x : PyData) (r : List PyData) (e : l = .dat (.tuple (x :: r))) (q : Q (.dat x) σ)
inductive It1P (Q : LV → Store → Prop) (l : LV) (σ : Store) : Prop where
  | mk (x y : PyData) (r : List PyData) (e : l = .dat (.tuple (x :: y :: r))) (q : Q (.dat y) σ)
/-- term[0] -/
theorem T_tag {e : Expr} {k : Nat} {p kp : Pos} {Q : LV → Store → Prop} (h : TE cx fx E d e m σ (TagP Q)) (hs : PlainSub (.Constant (.int 0) k kp) := by intro _ _ _; with_unfolding_all rfl) : TE cx fx E d (.Subscript e (.Constant (.int 0) k kp) p) m σ Q :=
  T_sub (h.mono fun l σ' ⟨t, e, q⟩ => by
    obtain ⟨r, er, _⟩ := t.enc_eq
    rw [e, er]
    exact T_cint (O_itemT (by decide) rfl q (by decide) hs))
theorem T_num {e : Expr} {k : Nat} {p kp : Pos} {Q : LV → Store → Prop} (h : TE cx fx E d e m σ (NumP Q)) (hs : PlainSub (.Constant (.int 1) k kp) := by intro _ _ _; with_unfolding_all rfl) : TE cx fx E d (.Subscript e (.Constant (.int 1) k kp) p) m σ Q :=
  T_sub (h.mono fun l σ' ⟨t, e, q⟩ => by
    obtain ⟨r, er, _⟩ := t.enc_eq
    rw [e, er]
    exact T_cint (O_itemT (by decide) rfl q (by decide) hs))
theorem T_args {e : Expr} {k : Nat} {p kp : Pos} {Q : LV → Store → Prop} (h : TE cx fx E d e m σ (ArgsP Q)) (hs : PlainSub (.Constant (.int 2) k kp) := by intro _ _ _; with_unfolding_all rfl) : TE cx fx E d (.Subscript e (.Constant (.int 2) k kp) p) m σ Q :=
  T_sub (h.mono fun l σ' ⟨t, e, ht, q⟩ => by
    obtain ⟨r, er, hr⟩ := t.enc_eq
    rw [e, er, hr ht]
    exact T_cint (O_itemT (by decide) rfl q (by decide) hs))
/-- an item of a tuple at hand -/
theorem T_item0 {e : Expr} {k : Nat} {p kp : Pos} {Q : LV → Store → Prop} (h : TE cx fx E d e m σ (It0P Q)) (hs : PlainSub (.Constant (.int 0) k kp) := by intro _ _ _; with_unfolding_all rfl) : TE cx fx E d (.Subscript e (.Constant (.int 0) k kp) p) m σ Q :=
  T_sub (h.mono fun l σ' ⟨x, r, e, q⟩ => by rw [e]; exact T_cint (O_itemT (by decide) rfl q (by decide) hs))
theorem T_item1 {e : Expr} {k : Nat} {p kp : Pos} {Q : LV → Store → Prop} (h : TE cx fx E d e m σ (It1P Q)) (hs : PlainSub (.Constant (.int 1) k kp) := by intro _ _ _; with_unfolding_all rfl) : TE cx fx E d (.Subscript e (.Constant (.int 1) k kp) p) m σ Q :=
  T_sub (h.mono fun l σ' ⟨x, y, r, e, q⟩ => by rw [e]; exact T_cint (O_itemT (by decide) rfl q (by decide) hs))
/-- term[0] == 'x' -/
theorem T_tagIs {x : Str} {k k' : Nat} {np p kp cp bp : Pos} {y : Str} {t : Tm} {Q : LV → Store → Prop} (hx : lk m x = some (.dat t.enc)) (q : Q (.dat (.bool (sb t.tag y))) σ) (hb : locB fx x = true := by exact tT)
    (hs : PlainSub (.Constant (.int 0) k kp) := by intro _ _ _; with_unfolding_all rfl) : TE cx fx E d (.Compare (.Subscript (.Name x np) (.Constant (.int 0) k kp) p) [.Eq] [.Constant (.str y) k' cp] bp) m σ Q :=
  T_cmp (T_tag (T_name hx ⟨t, rfl, T_cstr (O_eqs q)⟩ hb) hs)
theorem TT_tagIs {x : Str} {k k' : Nat} {np p kp cp bp : Pos} {y : Str} {t : Tm} {Q : Bool → Store → Prop} (hx : lk m x = some (.dat t.enc)) (q : Q (sb t.tag y) σ) (hb : locB fx x = true := by exact tT)
    (hs : PlainSub (.Constant (.int 0) k kp) := by intro _ _ _; with_unfolding_all rfl) : TT cx fx E d (.Compare (.Subscript (.Name x np) (.Constant (.int 0) k kp) p) [.Eq] [.Constant (.str y) k' cp] bp) m σ Q :=
  TT_cmp (T_tag (T_name hx ⟨t, rfl, T_cstr (O_eqs ⟨_, rfl, q⟩)⟩ hb) hs)
end
noncomputable def intIn (K : Frag) (x : Str) : Option Int := match nsIn K mainGlobals x with
  | some (some (.int i _)) => some i
  | _ => none
theorem intIn_of {K : Frag} {x : Str} {i : Int} (h : intIn K x = some i) : ∃ t, nsIn K mainGlobals x = some (some (.int i t)) := by
  unfold intIn at h
  split at h
  · rename_i j t e; cases h; exact ⟨t, e⟩
  · cases h
noncomputable def numsL : List (Str × Int) := [(("A_NIL" : Str), (0 : Int)), ("A_BAR", 8), ("A_CUT", 15), ("A_TRUE", 16), ("A_SYSTEM", 25), ("F_DOT", 0), ("F_COMMA", 1), ("F_SEMI", 2), ("F_ARROW", 3), ("F_NOT", 4), ("F_NECK", 5), ("F_GRAMMAR", 8), ("F_CURLY", 9), ("F_EQUAL", 10), ("F_ERROR", 16)]
theorem gi (P : Params) {x : Str} {i : Int} (h : (x, i) ∈ numsL) : ∃ t, nsIn (KF P) mainGlobals x = some (some (.int i t)) := by
  simp only [numsL, List.mem_cons, List.not_mem_nil, or_false, Prod.mk.injEq] at h
  rcases h with ⟨rfl, rfl⟩ | ⟨rfl, rfl⟩ | ⟨rfl, rfl⟩ | ⟨rfl, rfl⟩ | ⟨rfl, rfl⟩ | ⟨rfl, rfl⟩ | ⟨rfl, rfl⟩ | ⟨rfl, rfl⟩ | ⟨rfl, rfl⟩ | ⟨rfl, rfl⟩ | ⟨rfl, rfl⟩ | ⟨rfl, rfl⟩ | ⟨rfl, rfl⟩ | ⟨rfl, rfl⟩ | ⟨rfl, rfl⟩ <;> exact intIn_of (by kernel_rfl)
section
variable {cx : Cx} {fx : Fx} {E : Value → Shared → Prop} {d : Nat} {m : Locals} {σ : Store}
/-- a number of the text -/
theorem T_num_ (i : Int) {x : Str} {p : Pos} {Q : LV → Store → Prop} (ok : CxOk cx) (q : Q (.dat (.int i)) σ)
    (h : (x, i) ∈ numsL := by decide +kernel)
    (hb : gloB fx x = true := by exact tT) : TE cx fx E d (.Name x p) m σ Q := by
  obtain ⟨t, e⟩ := gi cx.w.params h
  exact T_globD ok e q hb
/-- a def of the text is called -/
theorem T_def {x : Str} {np pos : Pos} {es : List Expr} {Q : LV → Store → Prop} {a : Addr} (ok : CxOk cx) (e : nsIn (KF cx.w.params) mainGlobals x = some (some (.ref a))) (hk : keepIn (KF cx.w.params) (.ref a) = true) (h : TEs cx fx E d pos es m σ (CallP cx fx E d (.ref a) m Q))
    (hp : Plain fx pos es := by rfl) (hb : gloB fx x = true := by exact tT) : TE cx fx E d (.Call (.Name x np) es [] pos) m σ Q :=
  T_call ok hk (T_glob ok e ⟨rfl, h⟩ hb) hp
end
section
variable {cx : Cx} {σ : Store}
noncomputable def NoX : PyData → Prop := fun _ => False
theorem c_var (ok : CxOk cx) (i : Int) : TC cx 0 (.ref 166) [.dat (.int i)] σ (fun l σ' => l = .dat (Tm.var i).enc ∧ Off [] σ σ') (fun _ => False) := by
  refine TC_fn2 (d := 0) (ls := [.dat (.int i)]) ok (show _ = some (o166_5 cx.w.params) by kernel_rfl) (by kernel_rfl) ["number"] ?_ ?_ (by decide) ?_ ?_
  · exact bnd1 fun _ _ => BindsTo.of_eq rfl
  · decide +kernel
  · intro fD fE fK eE kR kN
    exact S_cons (X_retK kR (T_tuple (Ts_cons (T_cstr (Ts_cons (T_name rfl (Ts_nil ⟨[.str "v", .int i], rfl, leT tT, datLow _, rfl, .low⟩)))))))
  · decide +kernel
theorem c_atomT (ok : CxOk cx) (i : Int) : TC cx 0 (.ref 173) [.dat (.int i)] σ (fun l σ' => l = .dat (Tm.atom i).enc ∧ Off [] σ σ') (fun _ => False) := by
  refine TC_fn2 (d := 0) (ls := [.dat (.int i)]) ok (show _ = some (o173_5 cx.w.params) by kernel_rfl) (by kernel_rfl) ["number"] ?_ ?_ (by decide) ?_ ?_
  · exact bnd1 fun _ _ => BindsTo.of_eq rfl
  · decide +kernel
  · intro fD fE fK eE kR kN
    exact S_cons (X_retK kR (T_tuple (Ts_cons (T_cstr (Ts_cons (T_name rfl (Ts_nil ⟨[.str "a", .int i], rfl, leT tT, datLow _, rfl, .low⟩)))))))
  · decide +kernel
theorem g_tuple (P : Params) : nsIn (KF P) mainGlobals "tuple" = some none := by kernel_rfl
theorem b_tuple : bootBuiltins "tuple" = some (.type "tuple") := by kernel_rfl
theorem c_struct (ok : CxOk cx) (f : Int) (xs : List PyData) : TC cx 1 (.ref 180) [.dat (.int f), .dat (.tuple xs)] σ (fun l σ' => l = .dat (.tuple [.str "s", .int f, .tuple xs]) ∧ Off [] σ σ') (fun _ => False) := by
  refine TC_fn2 (d := 1) (ls := [.dat (.int f), .dat (.tuple xs)]) ok (show _ = some (o180_5 cx.w.params) by kernel_rfl) (by kernel_rfl) ["functor", "args"] ?_ ?_ (by decide) ?_ ?_
  · exact bnd2 fun _ _ _ => BindsTo.of_eq rfl
  · decide +kernel
  · intro fD fE fK eE kR kN
    refine S_cons (X_retK kR (T_tuple (Ts_cons (T_cstr (Ts_cons (T_name rfl (Ts_cons (T_callB ok (g_tuple _) b_tuple (by decide +kernel) (.inl ⟨_, rfl⟩) (Ts_cons (T_name rfl (Ts_nil (OC_tupT (Ts_nil ?_)))))))))))))
    exact ⟨[.str "s", .int f, .tuple xs], rfl, leT tT, datLow _, rfl, .low⟩
  · decide +kernel
theorem c_callable (ok : CxOk cx) (t : Tm) : TC cx 0 (.ref 202) [.dat t.enc] σ (fun l σ' => l = .dat (.bool (sb t.tag "a" || sb t.tag "s")) ∧ Off [] σ σ') (fun _ => False) := by
  refine TC_fn2 (d := 0) (ls := [.dat t.enc]) ok (show _ = some (o202_5 cx.w.params) by kernel_rfl) (by kernel_rfl) ["term"] ?_ ?_ (by decide) ?_ ?_
  · exact bnd1 fun _ _ => BindsTo.of_eq rfl
  · decide +kernel
  · intro fD fE fK eE kR kN
    refine S_cons (X_retK kR (T_orv (T_tagIs rfl ⟨_, rfl, fun h => T_and1 (T_tagIs rfl ⟨datLow _, by rw [show sb t.tag "a" = false from h]; rfl, .low⟩), fun h => ⟨datLow _, by rw [show sb t.tag "a" = true from h]; rfl, .low⟩⟩)))
  · decide +kernel
theorem c_arguments (ok : CxOk cx) (t : Tm) : TC cx 0 (.ref 216) [.dat t.enc] σ (fun l σ' => l = .dat (.tuple (if sb t.tag "s" then t.args else [])) ∧ Off [] σ σ') (fun _ => False) := by
  refine TC_fn2 (d := 0) (ls := [.dat t.enc]) ok (show _ = some (o216_5 cx.w.params) by kernel_rfl) (by kernel_rfl) ["term"] ?_ ?_ (by decide) ?_ ?_
  · exact bnd1 fun _ _ => BindsTo.of_eq rfl
  · decide +kernel
  · intro fD fE fK eE kR kN
    refine S_cons (X_if (TT_tagIs rfl ⟨fun h => ?_, fun h => S_nil ?_⟩))
    · exact S_cons (X_retK kR (T_args (T_name rfl ⟨t, rfl, h, datLow _, by rw [show sb t.tag "s" = true from h]; rfl, .low⟩)))
    · exact S_cons (X_retK kR (T_tuple (Ts_nil ⟨[], rfl, leT tT, datLow _, by rw [show sb t.tag "s" = false from h]; rfl, .low⟩)))
  · decide +kernel
noncomputable def Sy.functorIn (S : Sy) : Tm → Sy × Int
  | .atom n => S.functor n 0
  | t => (S, t.num)
theorem c_functorIn (ok : CxOk cx) {S : Sy} (hS : SymAt σ S) (hz : S.size ≤ 100000) (t : Tm) : TC cx 1 (.ref 209) [.loc 1, .dat t.enc] σ (fun l σ' => l = .dat (.int (S.functorIn t).2) ∧ SymAt σ' (S.functorIn t).1 ∧ Off [5, 6] σ σ') (fun _ => False) := by
  refine TC_fn2 (d := 1) (ls := [.loc 1, .dat t.enc]) ok (show _ = some (o209_5 cx.w.params) by kernel_rfl) (by kernel_rfl) ["symbols", "term"] ?_ ?_ (by decide) ?_ ?_
  · exact bnd2 fun _ _ _ => BindsTo.of_eq rfl
  · decide +kernel
  · intro fD fE fK eE kR kN
    have hS' := hS.low
    refine S_cons (X_if (TT_tagIs rfl ⟨fun h => ?_, fun h => S_nil ?_⟩))
    · have e : ∃ n, t = .atom n := by cases t <;> first | exact ⟨_, rfl⟩ | exact absurd h Bool.false_ne_true
      obtain ⟨n, rfl⟩ := e
      refine S_cons (X_retK kR (T_symM (f := 102) ok rfl hS'.s1 hS'.s2 rfl (Ts_cons (T_num (T_name rfl ⟨_, rfl, Ts_cons (T_cint (Ts_nil (OC_of (c_functor ok hS' (by lia) n 0) (lowOk (by exact tT)) .never fun l σ' ll ⟨hl, hS₁, ho⟩ => ?_)))⟩))) (by decide)))
      exact ⟨ll, hl, hS₁.mix, Off.low.mix ho⟩
    · refine S_cons (X_retK kR (T_num (T_name rfl ⟨_, rfl, datLow _, ?_, ?_, .low⟩)))
      · cases t <;> first | rfl | exact absurd h (Ne.symm Bool.false_ne_true)
      · cases t <;> first | exact hS' | exact absurd h (Ne.symm Bool.false_ne_true)
  · decide +kernel
end
noncomputable def ExcAt (σ : Store) (b : PyData) : Prop := σ 15 = .exc 16 true ∧ σ 16 = .ns [("ball", .dat b)]
noncomputable def ballOf (formal : PyData) : PyData := .tuple [.str "s", .int 16, .tuple [formal, .tuple [.str "a", .int 25]]]
noncomputable def errOf (S : Sy) (kind : Str) (culprit : PyData) : PyData := .tuple [.str "s", .int ((S.atom kind).1.func "type_error" 2).2, .tuple [.tuple [.str "a", .int (S.atom kind).2], culprit]]
noncomputable def instOf (S : Sy) : PyData := .tuple [.str "a", .int (S.atom "instantiation_error").2]
theorem g_isinstance (P : Params) : nsIn (KF P) mainGlobals "isinstance" = some none := by kernel_rfl
theorem b_isinstance : bootBuiltins "isinstance" = some (.builtin "isinstance") := by kernel_rfl
theorem g_str (P : Params) : nsIn (KF P) mainGlobals "str" = some none := by kernel_rfl
theorem b_str : bootBuiltins "str" = some (.type "str") := by kernel_rfl
section
variable {cx : Cx} {σ : Store}
theorem c_exinit (ok : CxOk cx) {b : PyData} (h0 : σ 15 = .exc0) (h1 : σ 16 = .free) : TC cx 0 (.ref 48) [.loc 15, .dat b] σ (fun l σ' => l = .dat .none ∧ ExcAt σ' b ∧ Off [15, 16] σ σ') (fun _ => False) := by
  refine TC_fn2 (d := 0) (ls := [.loc 15, .dat b]) ok (show _ = some (o48_2 cx.w.params) by kernel_rfl) (by kernel_rfl) ["self", "ball"] ?_ ?_ (by decide) ?_ ?_
  · exact bnd2 fun _ _ _ => BindsTo.of_eq rfl
  · decide +kernel
  · intro fD fE fK eE kR kN
    refine S_cons (X_setattrX ok (T_name rfl (T_name rfl ⟨15, 16, b, rfl, by decide, by decide, by decide, rfl, h0, h1, S_nil (kN _ _ ⟨rfl, ⟨rfl, rfl⟩, ?_⟩)⟩)))
    exact ((Off.low.upd (by exact tT)).upd (by exact tT)).upd (by exact tT)
  · decide +kernel
theorem c_system_error (ok : CxOk cx) {f : PyData} (h0 : σ 15 = .free) (h1 : σ 16 = .free) : TC cx 2 (.ref 244) [.dat f] σ (fun l σ' => l = .loc 15 ∧ ExcAt σ' (ballOf f) ∧ Off [15, 16] σ σ') (fun _ => False) := by
  refine TC_fn2 (d := 2) (ls := [.dat f]) ok (show _ = some (o244_5 cx.w.params) by kernel_rfl) (by kernel_rfl) ["formal"] ?_ ?_ (by decide) ?_ ?_
  · exact bnd1 fun _ _ => BindsTo.of_eq rfl
  · decide +kernel
  · intro fD fE fK eE kR kN
    refine S_cons (X_retK kR (T_def (a := 51) ok (by kernel_rfl) (by kernel_rfl) (Ts_cons (T_tuple ?_))))
    refine Ts_cons (T_cstr (Ts_cons (T_num_ 16 ok (Ts_cons (T_tuple ?_)))))
    refine Ts_cons (T_name rfl (Ts_cons (T_tuple ?_)))
    refine Ts_cons (T_cstr (Ts_cons (T_num_ 25 ok ?_)))
    refine Ts_nil ⟨[.str "a", .int 25], rfl, leT tT, Ts_nil ⟨[f, .tuple [.str "a", .int 25]], rfl, leT tT, Ts_nil ⟨[.str "s", .int 16, .tuple [f, .tuple [.str "a", .int 25]]], rfl, leT tT, Ts_nil ?_⟩⟩⟩
    refine OC_newX (d := 0) ok (n := 15) h0 (c_exinit ok rfl h1) fun l σ' ⟨hl, he, ho⟩ => ⟨hl, locLow (by decide), rfl, he, ?_⟩
    exact (Off.low.upd (by exact tT)).mix ho
  · decide +kernel
/-- formal_of with a word and a term -/
theorem c_formal_of (ok : CxOk cx) {S : Sy} (hS : SymAt σ S) (hz : S.size ≤ 80000) (kind : Str) (c : List PyData) : TC cx 2 (.ref 251) [.loc 1, .dat (.str "type_error"), .dat (.tuple [.str kind, .tuple c])] σ (fun l σ' => l = .dat (errOf S kind (.tuple c)) ∧ SymAt σ' ((S.atom kind).1.func "type_error" 2).1 ∧ Off [3, 4, 5, 6] σ σ') (fun _ => False) := by
  refine TC_fn2 (d := 2) (ls := [.loc 1, .dat (.str "type_error"), .dat (.tuple [.str kind, .tuple c])]) ok (show _ = some (o251_6 cx.w.params) by kernel_rfl) (by kernel_rfl) ["symbols", "name", "parts"] ?_ ?_ (by decide) ?_ ?_
  · exact bnd3 fun _ _ _ _ => BindsTo.of_eq rfl
  · decide +kernel
  · intro fD fE fK eE kR kN
    have hS' := hS.low
    have sz := S.atom_size kind
    refine S_cons (X_assign (T_listN 32 (Ts_nil ⟨[], rfl, leT tT, rfl, ?_⟩)))
    refine S_cons (X_for (.exE eE) (by decide) (TI_tup (by decide) (T_name rfl ⟨[.str kind, .tuple c], rfl, ?_⟩)))
    refine S_cons (X_expr (T_methB PySem.F.plainAttrs_list PySem.F.slot_list_append PySem.F.type_list_append (T_name rfl ⟨32, rfl, rfl, by decide, Ts_cons (T_ifexp (TT_plain (T_callB ok (g_isinstance _) b_isinstance (by decide +kernel) (.inr ⟨_, rfl⟩) ?_)))⟩)))
    refine Ts_cons (T_name rfl (Ts_cons (T_bltin ok (g_str _) b_str (by decide +kernel) (Ts_nil (OC_isstrY (OT_bool ⟨fun _ => ?_, fun h => by cases h⟩))))))
    refine T_tuple (Ts_cons (T_cstr (Ts_cons (T_symM (f := 88) ok rfl hS'.s1 hS'.s2 rfl (Ts_cons (T_name rfl (Ts_nil (OC_e2 (c_atom ok hS'.upd (by lia) kind) (lowOk (by exact tT)) .never fun σ' ll hS₁ ho => ?_)))) (by decide)))))
    refine Ts_nil ⟨[.str "a", .int (S.atom kind).2], rfl, leT tT, Ts_nil (OC_append (xs := []) rfl (by simp) ⟨rfl, S_nil ?_⟩)⟩
    refine S_cons (X_expr (T_methB PySem.F.plainAttrs_list PySem.F.slot_list_append PySem.F.type_list_append (T_name rfl ⟨32, rfl, rfl, by decide, Ts_cons (T_ifexp (TT_plain (T_callB ok (g_isinstance _) b_isinstance (by decide +kernel) (.inr ⟨_, rfl⟩) ?_)))⟩)))
    refine Ts_cons (T_name rfl (Ts_cons (T_bltin ok (g_str _) b_str (by decide +kernel) (Ts_nil (OC_isstrN (OT_bool ⟨fun h => (by cases h), fun _ => ?_⟩))))))
    refine T_name rfl (Ts_nil (OC_append (xs := [.tuple [.str "a", .int (S.atom kind).2]]) rfl (by simp) ⟨rfl, S_nil ?_⟩))
    refine S_cons (X_retK kR (T_tuple (Ts_cons (T_cstr (Ts_cons (T_symM (f := 109) ok rfl hS₁.s1 hS₁.s2 rfl ?_ (by decide)))))))
    refine Ts_cons (T_name rfl (Ts_cons (T_len ok (T_name rfl ⟨[.tuple [.str "a", .int (S.atom kind).2], .tuple c], .inr (.inr ⟨32, rfl, by decide, rfl⟩), by show 2 < 2 ^ 62; decide, Ts_nil ?_⟩))))
    refine OC_e2 (c_func ok hS₁.mix.upd.upd (by lia) "type_error" 2) (lowOk (by exact tT)) .never fun σ'' ll hS₂ ho₂ => ?_
    refine Ts_cons (T_callB ok (g_tuple _) b_tuple (by decide +kernel) (.inl ⟨_, rfl⟩) (Ts_cons (T_name rfl (Ts_nil (OC_tupN (n := 32) (xs := [.tuple [.str "a", .int (S.atom kind).2], .tuple c]) rfl (by simp) (Ts_nil ?_))))))
    refine ⟨[.str "s", .int ((S.atom kind).1.func "type_error" 2).2, .tuple [.tuple [.str "a", .int (S.atom kind).2], .tuple c]], rfl, leT tT, datLow _, rfl, hS₂.mix, ?_⟩
    refine Off.mix ?_ ho₂
    refine Off.upd (Off.upd (Off.mix ?_ (ho.mono (by exact tT))) (by exact tT)) (by exact tT)
    exact Off.low.upd (by exact tT)
  · decide +kernel
theorem c_inst_error (ok : CxOk cx) {S : Sy} (hS : SymAt σ S) (hz : S.size ≤ 80000) (h0 : σ 15 = .free) (h1 : σ 16 = .free) : TC cx 3 (.ref 258) [.loc 1] σ (fun l σ' => l = .loc 15 ∧ ExcAt σ' (ballOf (instOf S))) (fun _ => False) := by
  refine TC_fn2 (d := 3) (ls := [.loc 1]) ok (show _ = some (o258_6 cx.w.params) by kernel_rfl) (by kernel_rfl) ["symbols"] ?_ ?_ (by decide) ?_ ?_
  · exact bnd1 fun _ _ => BindsTo.of_eq rfl
  · decide +kernel
  · intro fD fE fK eE kR kN
    have hS' := hS.low
    refine S_cons (X_retK kR (T_def (a := 244) ok (by kernel_rfl) (by kernel_rfl) (Ts_cons (T_tuple ?_))))
    refine Ts_cons (T_cstr (Ts_cons (T_symM (f := 88) ok rfl hS'.s1 hS'.s2 rfl (Ts_cons (T_cstr (Ts_nil (OC_e2 (c_atom ok hS' (by lia) "instantiation_error") (lowOk (by exact tT)) .never fun σ' ll hS₁ ho => ?_)))) (by decide))))
    refine Ts_nil ⟨[.str "a", .int (S.atom "instantiation_error").2], rfl, leT tT, Ts_nil (OC_of (c_system_error ok ?_ ?_) (lowOk (by exact tT)) .never fun l σ'' ll ⟨hl, he, _⟩ => ⟨ll, hl, he⟩)⟩
    · exact (ho 15 (by decide) (by decide)).trans h0
    · exact (ho 16 (by decide) (by decide)).trans h1
  · decide +kernel
theorem c_type_error (ok : CxOk cx) {S : Sy} (hS : SymAt σ S) (hz : S.size ≤ 80000) (h0 : σ 15 = .free) (h1 : σ 16 = .free) (kind : Str) (c : List PyData) : TC cx 3 (.ref 265) [.loc 1, .dat (.str kind), .dat (.tuple c)] σ (fun l σ' => l = .loc 15 ∧ ExcAt σ' (ballOf (errOf S kind (.tuple c)))) (fun _ => False) := by
  refine TC_fn2 (d := 3) (ls := [.loc 1, .dat (.str kind), .dat (.tuple c)]) ok (show _ = some (o265_6 cx.w.params) by kernel_rfl) (by kernel_rfl) ["symbols", "kind", "culprit"] ?_ ?_ (by decide) ?_ ?_
  · exact bnd3 fun _ _ _ _ => BindsTo.of_eq rfl
  · decide +kernel
  · intro fD fE fK eE kR kN
    have hS' := hS.low
    refine S_cons (X_retK kR (T_def (a := 244) ok (by kernel_rfl) (by kernel_rfl) (Ts_cons (T_def (a := 251) ok (by kernel_rfl) (by kernel_rfl) ?_))))
    refine Ts_cons <| T_name rfl <| Ts_cons <| T_cstr <| Ts_cons <| T_tuple <| Ts_cons <| T_name rfl <| Ts_cons <| T_name rfl <| Ts_nil ⟨[.str kind, .tuple c], rfl, leT tT, Ts_nil ?_⟩
    refine OC_e2 (c_formal_of ok hS' hz kind c) (lowOk (by exact tT)) .never fun σ' ll hS₁ ho => ?_
    refine Ts_nil (OC_of (c_system_error ok ?_ ?_) (lowOk (by exact tT)) .never fun l σ'' ll ⟨hl, he, _⟩ => ⟨ll, hl, he⟩)
    · exact (ho 15 (by decide) (by decide)).trans h0
    · exact (ho 16 (by decide) (by decide)).trans h1
  · decide +kernel
end
noncomputable def funs0 : List (List Int) := [[1, 2], [7, 2], [9, 2], [10, 2], [11, 1], [12, 2], [12, 1], [13, 1], [14, 2], [2, 1], [20, 2], [21, 2], [3, 1], [3, 2], [4, 2], [6, 2], [22, 2], [26, 1], [27, 3], [28, 1], [15, 0], [16, 0], [17, 0], [18, 0], [19, 1], [19, 2], [19, 3], [19, 4], [19, 5], [19, 6], [19, 7], [19, 8]]
noncomputable def Base (S : Sy) : Prop := ∃ r, S.funs = funs0 ++ r
noncomputable def Arity (S : Sy) (f : Int) (n : Int) : Prop := 0 ≤ f ∧ ∃ a, S.funs[f.toNat]? = some [a, n]
noncomputable def Tm.end_ : Tm → Tm
  | .s2 f x y => if f = 0 then y.end_ else .s2 f x y
  | t => t
noncomputable def Leaf : Tm → Prop
  | .s1 _ _ => False
  | .s2 _ _ _ => False
  | _ => True
noncomputable def Ok (S : Sy) : Tm → Prop
  | .s1 f x => Arity S f 1 ∧ Ok S x
  | .s2 f x y => Arity S f 2 ∧ (f = 0 → Leaf y.end_) ∧ Ok S x ∧ Ok S y
  | _ => True
theorem base_ar {S : Sy} (hB : Base S) {f : Nat} {a n k : Int} (hf : funs0[f]? = some [a, n]) (h : Arity S (f : Int) k) : k = n := by
  obtain ⟨r, hr⟩ := hB
  obtain ⟨_, b, e⟩ := h
  rw [Int.toNat_natCast, hr, List.getElem?_append_left (List.getElem?_eq_some_iff.mp hf).1, hf] at e
  simp at e; exact e.2.symm
theorem Tm.size_pos (t : Tm) : 0 < t.size := by cases t <;> simp [Tm.size]
theorem lkp_same {α : Type} {m : List (Str × α)} {x y : Str} {v : α} (e : sb x y = true) : lk (putl m x v) y = some v := by rw [lk_putl, if_pos (sb_eq e)]
theorem lkp_ne {α : Type} {m : List (Str × α)} {x y : Str} {v : α} (e : sb x y = false) : lk (putl m x v) y = lk m y := by
  rw [lk_putl, if_neg]
  intro q
  rw [sb_iff.mpr q] at e; cases e
theorem lk_thaw {m : Locals} {x : Str} {l : LV} {n : Nat} {xs : List PyData} (h : lk m x = some l) : lk (thaw n xs m) x = some (thawV n xs l) := by
  unfold thaw
  rw [lk_map (thawV n xs), h]; rfl
theorem TT.mono {cx : Cx} {fx : Fx} {E : Value → Shared → Prop} {d : Nat} {m : Locals} {σ : Store} {e : Expr} {Q Q' : Bool → Store → Prop} (h : TT cx fx E d e m σ Q) (k : ∀ b σ', Q b σ' → Q' b σ') : TT cx fx E d e m σ Q' := fun A ρ s ok R =>
  wpAny_mono (h A ρ s ok R) (fun _ _ ⟨σ', ρ', X, R', q⟩ => ⟨σ', ρ', X, R', k _ σ' q⟩) fun _ _ x => x
section
variable {cx : Cx} {σ : Store}
theorem c_list_items (ok : CxOk cx) {S : Sy} (hB : Base S) (t : Tm) (ht : Ok S t) (hz : t.size ≤ 100000) : TC cx 0 (.ref 195) [.dat t.enc] σ (fun l σ' => (∃ xs, l = .dat (.tuple [.list xs, t.end_.enc]) ∧ xs.length ≤ t.size) ∧ Off [] σ σ') (fun _ => False) := by
  refine TC_fn2 (d := 0) (ls := [.dat t.enc]) ok (show _ = some (o195_5 cx.w.params) by kernel_rfl) (by kernel_rfl) ["term"] ?_ ?_ (by decide) ?_ ?_
  · exact bnd1 fun _ _ => BindsTo.of_eq rfl
  · decide +kernel
  · intro fD fE fK eE kR kN
    refine S_cons (X_assign (T_listN 32 (Ts_nil ⟨[], rfl, leT tT, rfl, ?_⟩)))
    refine S_cons (X_while (.exE eE) (fun n m τ => ∃ u xs, n = u.size ∧ lk m "items" = some (.loc 32) ∧ lk m "term" = some (.dat u.enc) ∧ τ 32 = .list xs ∧ xs.length + u.size ≤ t.size ∧ u.end_ = t.end_ ∧ Ok S u ∧ Off [] σ τ) t.size ⟨t, [], rfl, rfl, rfl, rfl, by simp, rfl, ht, Off.low.upd (by exact tT)⟩ ?_)
    intro n m τ j
    obtain ⟨u, xs, j⟩ := j
    refine and8 j fun j0 h1 h2 h3 h4 h5 h6 h7 => ?_
    clear j
    subst j0
    refine TT.mono (Q := fun c τ' => τ' = τ ∧ c = (sb u.tag "s" && (u.num == 0))) (TT_and (TT_tagIs h2 ⟨fun hs => TT_and (TT_cmp (T_num (T_name h2 ⟨u, rfl, T_num_ 0 ok (O_eqi ⟨_, rfl, fun hd => TT_and0 ⟨rfl, ?_⟩, fun hd => ⟨rfl, ?_⟩⟩)⟩))), fun hs => ⟨rfl, ?_⟩⟩)) ?_
    · rw [show sb u.tag "s" = true from hs, hd]; rfl
    · rw [show sb u.tag "s" = true from hs, hd]; rfl
    · rw [show sb u.tag "s" = false from hs]; rfl
    rintro c τ' ⟨rfl, rfl⟩
    refine ⟨fun hc => ?_, fun hc => ?_⟩
    · obtain ⟨hs, hd⟩ := Bool.and_eq_true_iff.mp hc
      have hd' : u.num = 0 := by simpa using hd
      obtain ⟨f, x, y, rfl⟩ : ∃ f x y, u = .s2 f x y := by
        cases u with
        | s2 f x y => exact ⟨f, x, y, rfl⟩
        | s1 f x =>
          have : f = 0 := hd'
          subst this
          exact absurd (base_ar hB (f := 0) rfl h6.1) (by decide)
        | _ => exact absurd hs Bool.false_ne_true
      have hf : f = 0 := hd'
      subst hf
      have sz : (Tm.s2 0 x y).size = x.size + y.size + 1 := rfl
      have px := x.size_pos
      refine S_cons (X_expr (T_methB PySem.F.plainAttrs_list PySem.F.slot_list_append PySem.F.type_list_append (T_name h1 ⟨32, rfl, by rw [h3]; rfl, by decide, Ts_cons (T_item0 (T_args (T_name h2 ⟨_, rfl, rfl, x.enc, [y.enc], rfl, Ts_nil (OC_append h3 (by lia) ⟨rfl, ?_⟩)⟩)))⟩)))
      refine S_cons (X_assign (T_item1 (T_args (T_name h2 ⟨_, rfl, rfl, x.enc, y.enc, [], rfl, S_nil ?_⟩))))
      refine ⟨y.size, by lia, y, xs ++ [x.enc], rfl, (lkp_ne rfl).trans h1, lkp_same rfl, rfl, ?_, h5, h6.2.2.2, h7.upd (by exact tT)⟩
      rw [List.length_append]; simp; lia
    · have he : u.end_ = u := by
        cases u with
        | s2 f x y =>
          unfold Tm.end_
          rw [if_neg]
          intro q
          subst q
          cases hc
        | _ => rfl
      refine S_freeze 32 h3 (S_cons (X_retK kR (T_tuple (Ts_cons (T_name (lk_thaw h1) (Ts_cons (T_name (lk_thaw h2) (Ts_nil ⟨[.list xs, u.enc], rfl, leT tT, datLow _, ⟨xs, ?_, by lia⟩, h7.upd (by exact tT)⟩))))))))
      rw [← h5, he]
  · decide +kernel
noncomputable def Tm.spine (fs : List Int) : Tm → List Tm
  | .s2 f x y => if fs.any (· == f) then x :: y.spine fs else [.s2 f x y]
  | t => [t]
theorem Tm.spine_len (fs : List Int) (t : Tm) : (t.spine fs).length ≤ t.size := by
  induction t with
  | s2 f x y ih1 ih2 =>
    unfold Tm.spine
    have := x.size_pos
    split
    · simp only [List.length_cons, Tm.size]; lia
    · simp [Tm.size]
  | _ => simp [Tm.spine, Tm.size]
theorem c_right_spine (ok : CxOk cx) {S : Sy} (fs : List Int) (hf : ∀ f ∈ fs, Arity S f 1 → False) (t : Tm) (ht : Ok S t) (hz : t.size ≤ 100000) : TC cx 0 (.ref 301) [.dat t.enc, .dat (.tuple (fs.map .int))] σ (fun l σ' => l = .dat (.list ((t.spine fs).map Tm.enc)) ∧ Off [] σ σ') (fun _ => False) := by
  refine TC_fn2 (d := 0) (ls := [.dat t.enc, .dat (.tuple (fs.map .int))]) ok (show _ = some (o301_6 cx.w.params) by kernel_rfl) (by kernel_rfl) ["term", "functors"] ?_ ?_ (by decide) ?_ ?_
  · exact bnd2 fun _ _ _ => BindsTo.of_eq rfl
  · decide +kernel
  · intro fD fE fK eE kR kN
    refine S_cons (X_assign (T_listN 32 (Ts_nil ⟨[], rfl, leT tT, rfl, ?_⟩)))
    refine S_cons (X_while (.exE eE) (fun n m τ => ∃ u xs, n = u.size ∧ lk m "parts" = some (.loc 32) ∧ lk m "term" = some (.dat u.enc) ∧ lk m "functors" = some (.dat (.tuple (fs.map .int))) ∧ τ 32 = .list (xs.map Tm.enc) ∧ xs.length + u.size ≤ t.size ∧ xs ++ u.spine fs = t.spine fs ∧ Ok S u ∧ Off [] σ τ) t.size ⟨t, [], rfl, rfl, rfl, rfl, rfl, by simp, rfl, ht, Off.low.upd (by exact tT)⟩ ?_)
    intro n m τ j
    obtain ⟨u, xs, j⟩ := j
    refine and9 j fun j0 h1 h2 hfn h3 h4 h5 h6 h7 => ?_
    clear j
    subst j0
    refine TT.mono (Q := fun c τ' => τ' = τ ∧ c = (sb u.tag "s" && fs.any (· == u.num))) (TT_and (TT_tagIs h2 ⟨fun hs => TT_and (TT_cmp (T_num (T_name h2 ⟨u, rfl, T_name hfn (O_inT ⟨_, rfl, fun hd => TT_and0 ⟨rfl, ?_⟩, fun hd => ⟨rfl, ?_⟩⟩)⟩))), fun hs => ⟨rfl, ?_⟩⟩)) ?_
    · rw [show sb u.tag "s" = true from hs, hd]; rfl
    · rw [show sb u.tag "s" = true from hs, hd]; rfl
    · rw [show sb u.tag "s" = false from hs]; rfl
    rintro c τ' ⟨rfl, rfl⟩
    refine ⟨fun hc => ?_, fun hc => ?_⟩
    · obtain ⟨hs, hd⟩ := Bool.and_eq_true_iff.mp hc
      obtain ⟨f, x, y, rfl⟩ : ∃ f x y, u = .s2 f x y := by
        cases u with
        | s2 f x y => exact ⟨f, x, y, rfl⟩
        | s1 f x =>
          obtain ⟨g, hg, e⟩ := List.any_eq_true.mp hd
          have e' : g = f := by simpa [Tm.num] using e
          exact (hf g hg (e' ▸ h6.1)).elim
        | _ => exact absurd hs Bool.false_ne_true
      have sz : (Tm.s2 f x y).size = x.size + y.size + 1 := rfl
      have px := x.size_pos
      refine S_cons (X_expr (T_methB PySem.F.plainAttrs_list PySem.F.slot_list_append PySem.F.type_list_append (T_name h1 ⟨32, rfl, by rw [h3]; rfl, by decide, Ts_cons (T_item0 (T_args (T_name h2 ⟨_, rfl, rfl, x.enc, [y.enc], rfl, Ts_nil (OC_append h3 (by rw [List.length_map]; lia) ⟨rfl, ?_⟩)⟩)))⟩)))
      refine S_cons (X_assign (T_item1 (T_args (T_name h2 ⟨_, rfl, rfl, x.enc, y.enc, [], rfl, S_nil ?_⟩))))
      refine ⟨y.size, by lia, y, xs ++ [x], rfl, (lkp_ne rfl).trans h1, lkp_same rfl, (lkp_ne rfl).trans hfn, ?_, ?_, ?_, h6.2.2.2, h7.upd (by exact tT)⟩
      · show AO.list (xs.map Tm.enc ++ [x.enc]) = AO.list ((xs ++ [x]).map Tm.enc)
        rw [List.map_append]; rfl
      · rw [List.length_append]; simp; lia
      · rw [← h5]
        have : (Tm.s2 f x y).spine fs = x :: y.spine fs := by
          show (if fs.any (· == f) then x :: y.spine fs else [.s2 f x y]) = _
          exact if_pos hd
        rw [this]; simp
    · have he : u.spine fs = [u] := by
        cases u with
        | s2 f x y =>
          unfold Tm.spine
          rw [if_neg]
          intro q
          rw [show sb (Tm.s2 f x y).tag "s" = true from rfl, Bool.true_and] at hc
          have hc' : fs.any (· == f) = false := hc
          rw [hc'] at q; cases q
        | _ => rfl
      rw [he] at h5
      have pu := u.size_pos
      refine S_cons (X_expr (T_methB PySem.F.plainAttrs_list PySem.F.slot_list_append PySem.F.type_list_append (T_name h1 ⟨32, rfl, by rw [h3]; rfl, by decide, Ts_cons (T_name h2 (Ts_nil (OC_append h3 (by rw [List.length_map]; lia) ⟨rfl, ?_⟩)))⟩)))
      refine S_freeze 32 rfl (S_cons (X_retK kR (T_name (lk_thaw h1) ⟨datLow _, ?_, (h7.upd (by exact tT)).upd (by exact tT)⟩)))
      show LV.dat (.list (xs.map Tm.enc ++ [u.enc])) = _
      rw [← h5, List.map_append]; rfl
  · decide +kernel
end
/-! loops -/
section
variable {cx : Cx} {fx : Fx} {E : Value → Shared → Prop} {d : Nat} {m : Locals} {σ : Store}
theorem forL_inv {x : Str} {b : List Stmt} {Q : Fl → Locals → Store → Prop} {P : PyData → Prop} (J : Locals → Store → Prop) : ∀ {xs : List PyData} {m : Locals} {σ : Store}, (∀ y ∈ xs, P y) → J m σ →
    (∀ y m σ, P y → J m σ → TS cx fx E d b (putl m x (.dat y)) σ (fun fl m' σ' => fl = .next ∧ J m' σ')) → (∀ m σ, J m σ → Q .next m σ) → ForL cx fx E d x b Q xs m σ
  | [], _, _, _, h0, _, fin => fin _ _ h0
  | y :: ys, m, σ, hP, h0, step, fin => (step y m σ (hP y (.head _)) h0).mono fun fl m' σ' ⟨e, j⟩ => by
    subst e
    exact forL_inv J (fun z hz => hP z (.tail _ hz)) j step fin
theorem g_range (P : Params) : nsIn (KF P) mainGlobals "range" = some none := by kernel_rfl
theorem b_range : bootBuiltins "range" = some (.type "range") := by kernel_rfl
theorem TI_down {np pos : Pos} {e₀ : Expr} {es : List Expr} {Q : List PyData → Store → Prop} (ok : CxOk cx) (hd : 0 < d) (h : TEs cx fx E d pos (e₀ :: es) m σ (fun ls σ₁ => ∃ n : Nat, ls = [.dat (.int ((n : Int) - 1)), .dat (.int (-1)), .dat (.int (-1))] ∧ n ≤ 1000000 ∧ Q ((rangeL ((n : Int) - 1) (-1) n).map .int) σ₁))
    (hes : ∃ b t r, backTo pos (starEach (e₀ :: es) fx.env) = (b, t) :: r := by exact ⟨_, _, _, rfl⟩) (hp : Plain fx pos (e₀ :: es) := by rfl) (hk : fx.cs.kind = .function := by rfl) (hx : fx.env.kindOf "range" = some .globalImplicit := by rfl) : TI cx fx E d (.Call (.Name "range" np) (e₀ :: es) [] pos) m σ Q :=
  TI_of hd fun A ρ s ok' R => T_evalB ok (g_range _) b_range (by decide +kernel) ok' R (fun A ρ s ok'' R' => wpAny_mono (h A ρ s ok'' R') (fun vs s₁ ⟨ls, σ₁, ρ₁, X₁, R₁, r₁, n, e, hn, q⟩ => ⟨ls, σ₁, ρ₁, X₁, R₁, r₁, fun ρ₂ s₂ vs X₂ R₂ r₂ => by
    subst e
    cases r₂ with
    | cons a r₂ =>
    cases r₂ with
    | cons b r₂ =>
    cases r₂ with
    | cons c r₂ =>
    cases r₂
    obtain ⟨t, rfl⟩ := of_int a
    obtain ⟨u, rfl⟩ := of_int b
    obtain ⟨v, rfl⟩ := of_int c
    refine call_range_3 (by decide) ?_ (.inl (PyProof.noPylong_small (by lia)))
    obtain ⟨R₃, X₃⟩ := R₂.push { cls := .type "range", data := .fields #[.int ((n : Int) - 1) t, .int (-1) u, .int (-1) v] } s₂.toks
    exact ⟨σ₁, ρ₂, _, _, _, _, t, u, v, n, rfl, X₂.trans X₃, R₃, IsRange.new .., small_down hn, rangeSize_down n, q⟩⟩) fun _ _ x => x) hes hp hk hx (by decide +kernel)
end
theorem rangeL_down : ∀ (n : Nat) {y : Int}, y ∈ rangeL ((n : Int) - 1) (-1) n → 0 ≤ y ∧ y < n
  | 0, _, h => nomatch h
  | n + 1, y, h => by
    rcases List.mem_cons.mp h with rfl | h
    · omega
    · have e : ((n + 1 : Nat) : Int) - 1 + -1 = (n : Int) - 1 := by omega
      rw [e] at h
      have := rangeL_down n h
      omega
theorem get_some {α : Type} {xs : List α} {k : Int} (h0 : 0 ≤ k) (h : k < xs.length) : ∃ x, xs[k.toNat]? = some x := ⟨_, List.getElem?_eq_getElem (by omega)⟩
section
variable {cx : Cx} {σ : Store}
theorem c_conjunction (ok : CxOk cx) (gs : List PyData) (hz : gs.length ≤ 100000) : TC cx 1 (.ref 237) [.dat (.list gs)] σ (fun l σ' => (∃ x, l = .dat x) ∧ Off [] σ σ') (fun _ => False) := by
  refine TC_fn2 (d := 1) (ls := [.dat (.list gs)]) ok (show _ = some (o237_5 cx.w.params) by kernel_rfl) (by kernel_rfl) ["goals"] ?_ ?_ (by decide) ?_ ?_
  · exact bnd1 fun _ _ => BindsTo.of_eq rfl
  · decide +kernel
  · intro fD fE fK eE kR kN
    refine S_cons (X_if (TT_cmp (T_len ok (T_name rfl ⟨gs, .inl rfl, by omega, T_cint (O_eqi ⟨_, rfl, fun h => ?_, fun h => S_nil ?_⟩)⟩))))
    · refine S_cons (X_retK kR (T_tuple (Ts_cons (T_cstr (Ts_cons (T_num_ 16 ok (Ts_nil ⟨[.str "a", .int 16], rfl, leT tT, datLow _, ⟨_, rfl⟩, .low⟩)))))))
    · have hpos : 0 < gs.length := by
        have : ((gs.length : Int) == 0) = false := h
        have := beq_eq_false_iff_ne.mp this
        omega
      obtain ⟨last, hlast⟩ := get_some (xs := gs) (k := (gs.length : Int) - 1) (by omega) (by omega)
      refine S_cons (X_assign (T_sub (T_name rfl (T_bin (T_len ok (T_name rfl ⟨gs, .inl rfl, by omega, T_cint (O_sub (O_itemL (by omega) hlast ?_ (by omega)))⟩))))))
      refine S_cons (X_for (.exE eE) (by decide) (TI_down ok (by decide) (Ts_cons (T_bin (T_len ok (T_name rfl ⟨gs, .inl rfl, by omega, T_cint (O_sub (Ts_cons (T_neg (T_cint ⟨_, rfl, Ts_cons (T_neg (T_cint ⟨_, rfl, Ts_nil ⟨gs.length - 1, ?_, by omega, ?_⟩⟩))⟩))))⟩))))))
      · rw [show (gs.length : Int) - 2 = ((gs.length - 1 : Nat) : Int) - 1 by omega]
      · refine forL_inv (P := fun y => ∃ k : Int, y = .int k ∧ 0 ≤ k ∧ k < gs.length) (fun m τ => lk m "goals" = some (.dat (.list gs)) ∧ (∃ x, lk m "result" = some (.dat x)) ∧ Off [] σ τ) ?_ ⟨rfl, ⟨last, rfl⟩, .low⟩ ?_ ?_
        · intro y hy
          obtain ⟨k, hk, rfl⟩ := List.mem_map.mp hy
          have := rangeL_down _ hk
          exact ⟨k, rfl, this.1, by omega⟩
        · rintro y m τ ⟨k, rfl, h0, h1⟩ ⟨e1, ⟨x, e2⟩, o⟩
          obtain ⟨g, hg⟩ := get_some h0 h1
          refine S_cons (X_assign (T_tuple (Ts_cons (T_cstr (Ts_cons (T_num_ 1 ok (Ts_cons (T_tuple ?_))))))))
          refine Ts_cons <| T_sub <| T_name ((lkp_ne rfl).trans e1) <| T_name (lkp_same rfl) <| O_itemL h0 hg (Ts_cons <| T_name ((lkp_ne rfl).trans e2) <| Ts_nil ⟨[g, x], rfl, leT tT, Ts_nil ⟨[.str "s", .int 1, .tuple [g, x]], rfl, leT tT, S_nil ⟨rfl, (lkp_ne rfl).trans ((lkp_ne rfl).trans e1), ⟨_, lkp_same rfl⟩, o⟩⟩⟩) (by omega)
        · rintro m τ ⟨_, ⟨x, e⟩, o⟩
          exact S_cons (X_retK kR (T_name e ⟨datLow _, ⟨x, rfl⟩, o⟩))
  · decide +kernel
end
section
variable {cx : Cx} {fx : Fx} {E : Value → Shared → Prop} {d : Nat} {m : Locals} {σ : Store}
theorem g_reversed (P : Params) : nsIn (KF P) mainGlobals "reversed" = some none := by kernel_rfl
theorem b_reversed : bootBuiltins "reversed" = some (.type "reversed") := by kernel_rfl
theorem TI_rev {np pos : Pos} {e : Expr} {Q : List PyData → Store → Prop} (ok : CxOk cx) (hd : 0 < d) (h : TE cx fx E d e m σ (fun l σ₁ => ∃ xs, l = .dat (.list xs) ∧ Q xs.reverse σ₁))
    (he : starEach [e] fx.env = (false, eval e fx.env) :: starEach [] fx.env := by rfl)
    (hes : ∃ b t r, backTo pos (starEach [e] fx.env) = (b, t) :: r := by exact ⟨_, _, _, rfl⟩) (hp : Plain fx pos [e] := by rfl) (hk : fx.cs.kind = .function := by rfl) (hx : fx.env.kindOf "reversed" = some .globalImplicit := by rfl) : TI cx fx E d (.Call (.Name "reversed" np) [e] [] pos) m σ Q := fun A ρ s ok' R => by
  refine T_evalB ok (g_reversed _) b_reversed (by decide +kernel) ok' R (Ts_cons (h.mono fun l σ₁ ⟨xs, e, q⟩ => Ts_nil ?_) he) hes hp hk hx (by decide +kernel)
  subst e
  intro ρ₁ s₁ vs X₁ R₁ r₁
  cases r₁ with
  | cons a r₁ =>
  cases r₁
  have a' := a
  obtain ⟨l, vs, rfl, hl, D⟩ := of_list a
  obtain ⟨as, rd, fz⟩ := a'
  refine call_reversed_list hl ?_
  obtain ⟨R₂, X₂⟩ := R₁.push (revObj l ((vs.size : Int) - 1)) s₁.toks
  obtain ⟨n1, n2, n3⟩ := newAddr R₁
  have hlt : l < s₁.heap.objs.size := by obtain ⟨_, e, _⟩ := hl; exact Heap.lt_size e
  have hl' : (s₁.heap.push (revObj l ((vs.size : Int) - 1))).IsList l vs := let ⟨o, e, r⟩ := hl; ⟨o, Heap.get?_push_of_some _ e, r⟩
  have W := Walks.listRev (prog := PW) (w := cx.w) (A := A) (ok'.handled.resolve_left (by omega)) s₁.heap.objs.size l (Nat.ne_of_lt hlt) vs
  have st : (0 : Nat) ≤ vs.size ∧ (s₁.heap.push (revObj l ((vs.size : Int) - 1))).IsRevIter s₁.heap.objs.size l ((vs.size : Int) - 1 - ((0 : Nat) : Int)) ∧ (s₁.heap.push (revObj l ((vs.size : Int) - 1))).IsList l vs :=
    ⟨Nat.zero_le _, ⟨_, Heap.get?_push_size _ rfl, rfl, by show Data.fields #[.ref l, rawInt ((vs.size : Int) - 1)] = _; simp⟩, hl'⟩
  refine W.self 0 { s₁ with heap := s₁.heap.push (revObj l ((vs.size : Int) - 1)) } _ _ st ?_
  have len := D.length
  have len' : xs.reverse.length = vs.size := by rw [List.length_reverse, len]; simp
  refine ⟨xs.reverse, σ₁, ρ₁, s₁.heap.objs.size, rfl, X₁.trans X₂, R₂, old_none R X₁, ⟨[s₁.heap.objs.size, l], _, _, _, _, (by rw [len']; exact W), ?_, n1, n2, Heap.get?_push_size _ rfl, rfl, st, ?_, ?_⟩, q⟩
  · intro b hb
    rcases List.mem_cons.mp hb with rfl | hb
    · exact .inl rfl
    · rw [List.mem_singleton.mp hb]
      refine .inr (Frozen.carry (X₂.carry0 R₁.toRelC) ?_)
      cases rd with
      | list h1 h2 h3 h4 => exact fz _ (.head _)
  · intro i v hv hi
    rw [len'] at hi
    have hlx : xs.length = vs.size := by rw [len]; simp
    obtain ⟨y, hy⟩ : ∃ y, xs[vs.size - 1 - i]? = some y := ⟨_, List.getElem?_eq_getElem (by omega)⟩
    obtain ⟨v', e', r'⟩ := D.get hy
    have h1 : vs[vs.size - 1 - i]? = some v' := by simpa using e'
    have hv' : vs[vs.size - 1 - i]? = some v := hv
    rw [hv'] at h1; cases h1
    exact ⟨y, by rw [List.getElem?_reverse (by omega), hlx]; exact hy, DRep.carry (X₂.carry0 R₁.toRelC) r'⟩
  · rintro i h' ⟨_, ⟨o, e, _, dd⟩, _⟩
    exact ⟨o, _, e, dd⟩
end
section
variable {cx : Cx} {σ : Store}
theorem c_list_term (ok : CxOk cx) (xs : List PyData) (y : PyData) (hy : y ≠ .none) : TC cx 1 (.ref 188) [.dat (.list xs), .dat y] σ (fun l σ' => (∃ x, l = .dat x) ∧ Off [] σ σ') (fun _ => False) := by
  refine TC_fn2 (d := 1) (ls := [.dat (.list xs), .dat y]) ok (show _ = some (o188_5 cx.w.params) by kernel_rfl) (by kernel_rfl) ["items", "tail"] ?_ ?_ (by decide) ?_ ?_
  · intro s vs hb
    revert vs
    exact bndc fun _ => bndc fun _ => bndn (BindsTo.of_defaults rfl (hb _ _ (ok.K _ _ (show _ = some (o181_5 cx.w.params) by kernel_rfl))) rfl rfl rfl)
  · decide +kernel
  · intro fD fE fK eE kR kN
    have hn : isNoneB (.dat y) = false := by cases y <;> first | rfl | exact absurd rfl hy
    refine S_cons (X_assign (T_ifexp (TT_cmp (T_name rfl (T_cnone (O_is ⟨_, rfl, fun h => ?_, fun h => T_name rfl ?_⟩))))))
    · rw [hn] at h; cases h
    refine S_cons (X_for (.exE eE) (by decide) (TI_rev ok (by decide) (T_name rfl ⟨xs, rfl, ?_⟩)))
    refine forL_inv (P := fun _ => True) (fun m τ => (∃ x, lk m "result" = some (.dat x)) ∧ Off [] σ τ) (fun _ _ => trivial) ⟨⟨y, rfl⟩, .low⟩ ?_ ?_
    · rintro z m τ _ ⟨⟨x, e⟩, o⟩
      refine S_cons (X_assign (T_tuple (Ts_cons (T_cstr (Ts_cons (T_num_ 0 ok (Ts_cons (T_tuple ?_))))))))
      exact Ts_cons <| T_name (lkp_same rfl) <| Ts_cons <| T_name ((lkp_ne rfl).trans e) <| Ts_nil ⟨[z, x], rfl, leT tT, Ts_nil ⟨[.str "s", .int 0, .tuple [z, x]], rfl, leT tT, S_nil ⟨rfl, ⟨_, lkp_same rfl⟩, o⟩⟩⟩
    · rintro m τ ⟨⟨x, e⟩, o⟩
      exact S_cons (X_retK kR (T_name e ⟨datLow _, ⟨x, rfl⟩, o⟩))
  · decide +kernel
end
structure Le (c : Nat) (S S' : Sy) : Prop where
  texts : ∃ t, S'.texts = S.texts ++ t
  funs : ∃ t, S'.funs = S.funs ++ t
  size : S'.size ≤ S.size + c
theorem Le.refl (S : Sy) : Le 0 S S := ⟨⟨[], by simp⟩, ⟨[], by simp⟩, Nat.le_refl _⟩
theorem Le.trans {a b : Nat} {S T U : Sy} (h : Le a S T) (k : Le b T U) : Le (a + b) S U := by
  obtain ⟨⟨t, e⟩, ⟨f, e'⟩, z⟩ := h
  obtain ⟨⟨u, g⟩, ⟨v, g'⟩, z'⟩ := k
  exact ⟨⟨t ++ u, by rw [g, e, List.append_assoc]⟩, ⟨f ++ v, by rw [g', e', List.append_assoc]⟩, by lia⟩
theorem Le.up {a b : Nat} {S T : Sy} (h : Le a S T) (k : a ≤ b) : Le b S T := ⟨h.texts, h.funs, by have := h.size; lia⟩
theorem Sy.atom_le (S : Sy) (x : Str) : Le 1 S (S.atom x).1 := by
  refine ⟨?_, ?_, S.atom_size x⟩ <;> unfold Sy.atom <;> cases dget (numL S.texts) x <;> first | exact ⟨_, rfl⟩ | exact ⟨[], (List.append_nil _).symm⟩
theorem Sy.functor_le (S : Sy) (a n : Int) : Le 1 S (S.functor a n).1 := by
  refine ⟨?_, ?_, S.functor_size a n⟩ <;> unfold Sy.functor <;> cases dget (numL S.funs) [a, n] <;> first | exact ⟨_, rfl⟩ | exact ⟨[], (List.append_nil _).symm⟩
theorem Sy.func_le (S : Sy) (x : Str) (n : Int) : Le 2 S (S.func x n).1 := ((S.atom_le x).trans ((S.atom x).1.functor_le _ _)).up (by lia)
theorem Sy.functor_at (S : Sy) (a n : Int) : 0 ≤ (S.functor a n).2 ∧ (S.functor a n).1.funs[(S.functor a n).2.toNat]? = some [a, n] := by
  unfold Sy.functor
  cases h : dget (numL S.funs) [a, n] with
  | some i => obtain ⟨h0, h1, h2⟩ := numL_get h; exact ⟨h0, h2⟩
  | none => exact ⟨by simp, by simp⟩
theorem Arity.mono {c : Nat} {S S' : Sy} (h : Le c S S') {f n : Int} (k : Arity S f n) : Arity S' f n := by
  obtain ⟨h0, a, e⟩ := k
  obtain ⟨t, ht⟩ := h.funs
  exact ⟨h0, a, by rw [ht, List.getElem?_append_left (List.getElem?_eq_some_iff.mp e).1]; exact e⟩
theorem Ok.mono {c : Nat} {S S' : Sy} (h : Le c S S') : ∀ {t : Tm}, Ok S t → Ok S' t
  | .s1 _ _, k => ⟨k.1.mono h, Ok.mono h k.2⟩
  | .s2 _ _ _, k => ⟨k.1.mono h, k.2.1, Ok.mono h k.2.2.1, Ok.mono h k.2.2.2⟩
  | .int _, _ => trivial
  | .atom _, _ => trivial
  | .var _, _ => trivial
theorem Base.mono {c : Nat} {S S' : Sy} (h : Le c S S') (k : Base S) : Base S' := by
  obtain ⟨r, e⟩ := k
  obtain ⟨t, ht⟩ := h.funs
  exact ⟨r ++ t, by rw [ht, e, List.append_assoc]⟩
theorem Sy.functorIn_at {S : Sy} {t : Tm} (ht : Ok S t) (hc : (sb t.tag "a" || sb t.tag "s") = true) : 0 ≤ (S.functorIn t).2 ∧ ∃ a r, (S.functorIn t).1.funs[(S.functorIn t).2.toNat]? = some (a :: r) := by
  cases t with
  | atom n => have := S.functor_at n 0; exact ⟨this.1, _, _, this.2⟩
  | s1 f x => obtain ⟨h0, a, e⟩ := ht.1; exact ⟨h0, _, _, e⟩
  | s2 f x y => obtain ⟨h0, a, e⟩ := ht.1; exact ⟨h0, _, _, e⟩
  | _ => cases hc
theorem Sy.functorIn_le (S : Sy) (t : Tm) : Le 1 S (S.functorIn t).1 := by
  cases t with
  | atom n => exact S.functor_le n 0
  | _ => exact (Le.refl S).up (by lia)
/-! faults -/
inductive Flt where
  | inst
  | callable (t : Tm)
  | list (t : Tm)
noncomputable def Flt.ball (S : Sy) : Flt → PyData
  | .inst => ballOf (instOf S)
  | .callable t => ballOf (errOf S "callable" t.enc)
  | .list t => ballOf (errOf S "list" t.enc)
noncomputable def listFault (t : Tm) : Option Flt := match t.end_ with
  | .var _ => some .inst
  | .atom n => if n = 0 then none else some (.list t)
  | _ => some (.list t)
theorem enc_tup (t : Tm) : ∃ c, t.enc = .tuple c := by cases t <;> exact ⟨_, rfl⟩
section
variable {cx : Cx} {σ : Store}
theorem c_nonterminal (ok : CxOk cx) {S : Sy} (hS : SymAt σ S) (hz : S.size ≤ 80000) (t : Tm) (ht : Ok S t) (hc : (sb t.tag "a" || sb t.tag "s") = true) (a b : PyData) : TC cx 2 (.ref 343) [.loc 1, .dat t.enc, .dat a, .dat b] σ (fun l σ' => (∃ x, l = .dat x) ∧ (∃ S', SymAt σ' S' ∧ Le 3 S S') ∧ Off [5, 6] σ σ') (fun _ => False) := by
  refine TC_fn2 (d := 2) (ls := [.loc 1, .dat t.enc, .dat a, .dat b]) ok (show _ = some (o343_7 cx.w.params) by kernel_rfl) (by kernel_rfl) ["symbols", "term", "first", "last"] ?_ ?_ (by decide) ?_ ?_
  · exact bnd4 fun _ _ _ _ _ => BindsTo.of_eq rfl
  · decide +kernel
  · intro fD fE fK eE kR kN
    have hS' := hS.low
    have hat := Sy.functorIn_at ht hc
    have hle := S.functorIn_le t
    have sz := hle.size
    refine S_cons (X_assign (T_def (a := 209) ok (by kernel_rfl) (by kernel_rfl) (Ts_cons (T_name rfl (Ts_cons (T_name rfl (Ts_nil (OC_e2 (c_functorIn ok hS' (by lia) t) (lowOk (by exact tT)) .never fun σ' ll hS₁ ho => ?_))))))))
    refine S_cons (X_assign (T_bin (T_def (a := 216) ok (by kernel_rfl) (by kernel_rfl) (Ts_cons (T_name rfl (Ts_nil (OC_e1 (c_arguments ok t) (lowOk (by exact tT)) .never fun σ₂ ll ho₂ => ?_)))))))
    have len : (if sb t.tag "s" then t.args else []).length ≤ 2 := by cases t <;> exact Nat.le_of_ble_eq_true rfl
    refine T_tuple <| Ts_cons <| T_name rfl <| Ts_cons <| T_name rfl <| Ts_nil ⟨[a, b], rfl, leT tT, O_addT (by simp; lia) ?_⟩
    generalize hA : (if sb t.tag "s" then t.args else []) ++ [a, b] = args
    have hlen : args.length ≤ 4 := by rw [← hA, List.length_append]; simp; lia
    have hS₂ : SymAt (mix σ₂ (mix σ' (low σ))) (S.functorIn t).1 := (hS₁.mix.off ho₂ (by exact tT)).mix
    obtain ⟨f0, fa, fr, ff⟩ := hat
    refine S_cons (X_retK kR (T_def (a := 180) ok (by kernel_rfl) (by kernel_rfl) (Ts_cons (T_symM (f := 102) ok rfl hS₂.s1 hS₂.s2 rfl (Ts_cons (T_symM (f := 116) ok rfl hS₂.s1 hS₂.s2 rfl ?_ (by decide))) (by decide)))))
    refine Ts_cons <| T_name rfl <| Ts_nil <| OC_e1 (c_name ok hS₂ (by lia) f0 ff) (lowOk (by exact tT)) .never fun σ₃ ll ho₃ => ?_
    have hS₃ : SymAt (mix σ₃ (mix σ₂ (mix σ' (low σ)))) (S.functorIn t).1 := (hS₂.off ho₃ (by exact tT)).mix
    refine Ts_cons <| T_len ok <| T_name rfl ⟨args, .inr (.inl rfl), by lia, Ts_nil <| OC_e2 (c_functor ok hS₃ (by lia) fa args.length) (lowOk (by exact tT)) .never fun σ₄ ll hS₄ ho₄ => ?_⟩
    refine Ts_cons <| T_name rfl <| Ts_nil <| OC_of (c_struct ok _ args) (lowOk (by exact tT)) .never fun l σ₅ ll ⟨hl, ho₅⟩ => ⟨ll, ⟨_, hl⟩, ⟨_, (hS₄.mix.off ho₅ (by exact tT)).mix, (hle.trans (Sy.functor_le _ _ _)).up (by lia)⟩, ?_⟩
    exact (((((Off.low.mix ho).mix (ho₂.mono (by exact tT))).mix (ho₃.mono (by exact tT))).mix ho₄).mix (ho₅.mono (by exact tT)))
  · decide +kernel
end
theorem enc_leaf {t : Tm} (h : Leaf t) : t.enc = .tuple [.str t.tag, .int t.num] := by
  cases t <;> first | (simp only [Tm.enc, Tm.tag, Tm.num]; done) | exact False.elim h
theorem shaped_leaf {t : Tm} (h : Leaf t) : SeqAt.shaped t.enc = true := by
  cases t <;> first | exact False.elim h | (simp [SeqAt.shaped, PyData.canLay0, PyData.canLayAll0, PyData.depth, PyData.depthAll, Tm.enc]; decide +kernel)
theorem ofFalse (b : PyData) : (fun _ : PyData => False) b → False := id
/-- raising with an exception that a call gave back -/
theorem X_raiseC {cx : Cx} {fx : Fx} {E : Value → Shared → Prop} {d : Nat} {m : Locals} {σ : Store} {X : PyData → Prop} (eE : E = EX cx fx X) (ok : CxOk cx) {e : Expr} {p : Pos} {Q : Fl → Locals → Store → Prop} (hd : 0 < d) (h : TE cx fx E d e m σ (fun l σ₁ => l = .loc 15 ∧ ∃ b, ExcAt σ₁ b ∧ X b)) : TX cx fx E d (.Raise (some e) none p) m σ Q := by
  subst eE
  exact X_raise ok hd (h.mono fun l σ' ⟨e, b, ⟨h1, h2⟩, hX⟩ => ⟨15, 16, b, e, by decide, h1, h2, hX⟩)
section
variable {cx : Cx} {σ : Store}
theorem ExcAt.mix {τ : Store} {b : PyData} (h : ExcAt τ b) : ExcAt (Mine.mix τ σ) b := h
theorem c_terminals (ok : CxOk cx) {S : Sy} (hS : SymAt σ S) (hB : Base S) (hz : S.size ≤ 80000) (h15 : σ 15 = .free) (h16 : σ 16 = .free) (t : Tm) (ht : Ok S t) (hl : Leaf t.end_) (ht' : t.size ≤ 90000) (a b : PyData) (hb : b ≠ .none) :
    TC cx 4 (.ref 350) [.loc 1, .dat t.enc, .dat a, .dat b] σ (fun l σ' => listFault t = none ∧ (∃ x, l = .dat x) ∧ Off [] σ σ') (fun z => ∃ F, listFault t = some F ∧ z = F.ball S) := by
  refine TC_fn2 (d := 4) (ls := [.loc 1, .dat t.enc, .dat a, .dat b]) ok (show _ = some (o350_7 cx.w.params) by kernel_rfl) (by kernel_rfl) ["symbols", "term", "first", "last"] ?_ ?_ (by decide) ?_ ?_
  · exact bnd4 fun _ _ _ _ _ => BindsTo.of_eq rfl
  · decide +kernel
  · intro fD fE fK eE kR kN
    have hS' := hS.low
    refine S_cons (X_unpack (names := [("items", _), ("tail", _)]) (by decide) (T_def (a := 195) ok (by kernel_rfl) (by kernel_rfl) (Ts_cons (T_name rfl (Ts_nil (OC_of (c_list_items ok hB t ht (by lia)) (lowOk (by exact tT)) .never fun l σ' ll ⟨⟨xs, hl', hx⟩, ho⟩ => ?_))))) (by intro x hx; simp only [List.mem_cons, List.not_mem_nil, or_false] at hx; rcases hx with rfl | rfl <;> rfl))
    subst hl'
    refine ⟨[.list xs, t.end_.enc], rfl, rfl, ?_⟩
    have hS₁ : SymAt (mix σ' (low σ)) S := (hS'.off ho (by exact tT)).mix
    have o₁ : Off [] σ (mix σ' (low σ)) := Off.low.mix ho
    have e15 := (o₁.at1 15 (by exact tT)).trans h15
    have e16 := (o₁.at1 16 (by exact tT)).trans h16
    refine S_cons (X_if (TT_tagIs (t := t.end_) rfl ⟨fun h => ?_, fun h => S_nil ?_⟩))
    · refine S_cons (X_raiseC eE ok (by decide) (T_def (a := 258) ok (by kernel_rfl) (by kernel_rfl) (Ts_cons (T_name rfl (Ts_nil (OC_of (c_inst_error ok hS₁ (by lia) e15 e16) (lowOk (by exact tT)) .never fun l σ'' ll ⟨hl', he⟩ => ⟨hl', _, he, ?_⟩))))))
      refine ⟨.inst, ?_, rfl⟩
      unfold listFault
      revert h hl
      cases t.end_ <;> intro hl h <;> first | rfl | exact absurd h Bool.false_ne_true | exact hl.elim
    · refine S_cons (X_if (TT_cmp (T_name (l := .dat t.end_.enc) rfl (T_def (a := 173) ok (by kernel_rfl) (by kernel_rfl) (Ts_cons (T_num_ 0 ok (Ts_nil (OC_e1 (c_atomT ok 0) (lowOk (by exact tT)) .never fun σ'' ll ho₂ => ?_))))))))
      have hS₂ : SymAt (mix σ'' (mix σ' (low σ))) S := (hS₁.off ho₂ (by exact tT)).mix
      have o₂ : Off [] σ (mix σ'' (mix σ' (low σ))) := o₁.mix ho₂
      have e15' := (o₂.at1 15 (by exact tT)).trans h15
      have e16' := (o₂.at1 16 (by exact tT)).trans h16
      refine O_ned (shaped_leaf hl) (shaped_leaf (t := .atom 0) trivial) ⟨_, rfl, fun hc => ?_, fun hc => S_nil ?_⟩
      · obtain ⟨c, ec⟩ := enc_tup t
        refine S_cons (X_raiseC eE ok (by decide) (T_def (a := 265) ok (by kernel_rfl) (by kernel_rfl) (Ts_cons (T_name rfl (Ts_cons (T_cstr (Ts_cons (T_name (l := .dat t.enc) rfl ?_))))))))
        rw [ec]
        refine Ts_nil (OC_of (c_type_error ok hS₂ (by lia) e15' e16' "list" c) (lowOk (by exact tT)) .never fun l σ₃ ll ⟨hl₃, he⟩ => ⟨hl₃, _, he, .list t, ?_, ?_⟩)
        · unfold listFault
          revert h hl hc
          cases t.end_ with
          | atom n =>
            intro hl h hc
            have : ¬ n = 0 := by
              rintro rfl
              revert hc; decide
            show (if n = 0 then none else some (Flt.list t)) = _
            rw [if_neg this]
          | var k => intro _ h; exact absurd h (Ne.symm Bool.false_ne_true)
          | int k => intro _ _ _; rfl
          | _ => intro hl; exact hl.elim
        · show _ = ballOf (errOf S "list" t.enc)
          rw [ec]
      · have hn : listFault t = none := by
          unfold listFault
          revert h hl hc
          cases t.end_ with
          | atom n =>
            intro hl h hc
            have hc' : (n == (0 : Int)) = true := by
              have z : (!PyData.eqv (Tm.atom n).enc (Tm.atom 0).enc) = false := hc
              have z' : PyData.eqv (Tm.atom n).enc (Tm.atom 0).enc = true := by simpa using z
              have w : PyData.eqv (Tm.atom n).enc (Tm.atom 0).enc = (n == 0) := by simp [Tm.enc, PyData.eqv, PyData.eqvAll]
              rw [← w]; exact z'
            show (if n = 0 then none else some (Flt.list t)) = none
            rw [if_pos (by simpa using hc')]
          | var k => intro _ h; exact absurd h (Ne.symm Bool.false_ne_true)
          | int k =>
            intro _ _ hc
            have z : (!PyData.eqv (Tm.int k).enc (Tm.atom 0).enc) = false := hc
            have w : PyData.eqv (Tm.int k).enc (Tm.atom 0).enc = false := by
              simp only [Tm.enc, PyData.eqv, PyData.eqvAll, Bool.and_eq_false_iff]
              left; decide +kernel
            rw [w] at z; cases z
          | _ => intro hl; exact hl.elim
        refine S_cons <| X_retK kR <| T_def (a := 180) ok (by kernel_rfl) (by kernel_rfl) <| Ts_cons <| T_num_ 10 ok <| Ts_cons <| T_tuple <| Ts_cons <| T_name rfl <| Ts_cons <| T_def (a := 188) ok (by kernel_rfl) (by kernel_rfl) <| Ts_cons <| T_name (l := .dat (.list xs)) rfl <| Ts_cons <| T_name rfl <| Ts_nil <| OC_of (c_list_term ok xs b hb) (lowOk (by exact tT)) .never fun l σ₃ ll ⟨⟨y, hy⟩, ho₃⟩ => ?_
        subst hy
        refine Ts_nil ⟨[a, y], rfl, leT tT, Ts_nil (OC_of (c_struct ok 10 [a, y]) (lowOk (by exact tT)) .never fun l σ₄ ll ⟨hl₄, ho₄⟩ => ⟨ll, hn, ⟨_, hl₄⟩, (o₂.mix ho₃).mix ho₄⟩)⟩
  · decide +kernel
end
noncomputable def plainFault : Tm → Option Flt
  | .int k => some (.callable (.int k))
  | .s2 f x y => if f = 0 then listFault (.s2 f x y) else none
  | _ => none
theorem ofS {t : Tm} (h1 : sb t.tag "v" = false) (h2 : sb t.tag "i" = false) (h3 : sb t.tag "a" = false) : sb t.tag "s" = true ∧ ∃ x r, t.args = x :: r := by
  cases t with
  | s1 f x => exact ⟨rfl, _, _, rfl⟩
  | s2 f x y => exact ⟨rfl, _, _, rfl⟩
  | int k => exact absurd h2 (Ne.symm Bool.false_ne_true)
  | atom k => exact absurd h3 (Ne.symm Bool.false_ne_true)
  | var k => exact absurd h1 (Ne.symm Bool.false_ne_true)
section
variable {cx : Cx} {σ : Store}
theorem c_plain_goal (ok : CxOk cx) {S : Sy} (hS : SymAt σ S) (hB : Base S) (hz : S.size ≤ 70000) (h15 : σ 15 = .free) (h16 : σ 16 = .free) (t : Tm) (ht : Ok S t) (ht' : t.size ≤ 90000) (a b : PyData) (hb : b ≠ .none) :
    TC cx 5 (.ref 402) [.loc 1, .dat t.enc, .dat a, .dat b] σ (fun l σ' => plainFault t = none ∧ (∃ x, l = .dat x) ∧ (∃ S', SymAt σ' S' ∧ Le 3 S S') ∧ Off [3, 4, 5, 6] σ σ') (fun z => ∃ F, plainFault t = some F ∧ z = F.ball S) := by
  refine TC_fn2 (d := 5) (ls := [.loc 1, .dat t.enc, .dat a, .dat b]) ok (show _ = some (o402_8 cx.w.params) by kernel_rfl) (by kernel_rfl) ["symbols", "term", "first", "last"] ?_ ?_ (by decide) ?_ ?_
  · exact bnd4 fun _ _ _ _ _ => BindsTo.of_eq rfl
  · decide +kernel
  · intro fD fE fK eE kR kN
    have hS' := hS.low
    refine S_cons (X_assign (T_def (a := 180) ok (by kernel_rfl) (by kernel_rfl) (Ts_cons (T_num_ 10 ok (Ts_cons (T_tuple (Ts_cons (T_name rfl (Ts_cons (T_name rfl (Ts_nil ⟨[a, b], rfl, leT tT, Ts_nil ?_⟩)))))))))))
    refine OC_e1 (c_struct ok 10 [a, b]) (lowOk (by exact tT)) .never fun σ₁ ll ho => ?_
    have hS₁ : SymAt (mix σ₁ (low σ)) S := (hS'.off ho (by exact tT)).mix
    have o₁ : Off [3, 4, 5, 6] σ (mix σ₁ (low σ)) := (Off.low.mix ho).mono (by exact tT)
    have e15 := (o₁.at1 15 (by exact tT)).trans h15
    have e16 := (o₁.at1 16 (by exact tT)).trans h16
    refine S_cons (X_if (TT_tagIs (t := t) rfl ⟨fun h => ?_, fun hv => S_nil ?_⟩))
    · -- a variable
      refine S_cons (X_retK kR (T_def (a := 180) ok (by kernel_rfl) (by kernel_rfl) (Ts_cons (T_symM (f := 109) ok rfl hS₁.s1 hS₁.s2 rfl (Ts_cons (T_cstr (Ts_cons (T_cint (Ts_nil ?_))))) (by decide)))))
      refine OC_e2 (c_func ok hS₁ (by omega) "phrase" 3) (lowOk (by exact tT)) .never fun σ₂ ll hS₂ ho₂ => ?_
      refine Ts_cons <| T_tuple <| Ts_cons <| T_name rfl <| Ts_cons <| T_name rfl <| Ts_cons <| T_name rfl <| Ts_nil ⟨[t.enc, a, b], rfl, leT tT, Ts_nil <| OC_of (c_struct ok _ _) (lowOk (by exact tT)) .never fun l σ₃ ll ⟨hl, ho₃⟩ => ⟨ll, ?_, ⟨_, hl⟩, ⟨_, (hS₂.mix.off ho₃ (by exact tT)).mix, (S.func_le _ _).up (by omega)⟩, (o₁.mix ho₂).mix (ho₃.mono (by exact tT))⟩⟩
      revert h
      cases t <;> intro h <;> first | rfl | exact absurd h Bool.false_ne_true
    refine S_cons (X_if (TT_tagIs (t := t) rfl ⟨fun h => ?_, fun hi => S_nil ?_⟩))
    · -- a number
      obtain ⟨c, ec⟩ := enc_tup t
      refine S_cons (X_raiseC eE ok (by decide) (T_def (a := 265) ok (by kernel_rfl) (by kernel_rfl) (Ts_cons (T_name rfl (Ts_cons (T_cstr (Ts_cons (T_name (l := .dat t.enc) rfl ?_))))))))
      rw [ec]
      refine Ts_nil (OC_of (c_type_error ok hS₁ (by omega) e15 e16 "callable" c) (lowOk (by exact tT)) .never fun l σ₃ ll ⟨hl₃, he⟩ => ⟨hl₃, _, he, .callable t, ?_, ?_⟩)
      · revert h
        cases t <;> intro h <;> first | rfl | exact absurd h Bool.false_ne_true
      · show _ = ballOf (errOf S "callable" t.enc)
        rw [ec]
    refine S_cons (X_if (TT_tagIs (t := t) rfl ⟨fun h => ?_, fun ha => S_nil ?_⟩))
    · -- an atom
      obtain ⟨n, rfl⟩ : ∃ n, t = .atom n := by cases t <;> first | exact ⟨_, rfl⟩ | exact absurd h Bool.false_ne_true
      refine S_cons (X_if (TT_cmp (T_num (T_name (l := .dat (Tm.atom n).enc) rfl ⟨.atom n, rfl, T_num_ 0 ok (O_eqi ⟨_, rfl, fun h => ?_, fun h => S_nil ?_⟩)⟩))))
      · exact S_cons (X_retK kR (T_name rfl ⟨datLow _, rfl, ⟨_, rfl⟩, ⟨_, hS₁, (Le.refl S).up (by omega)⟩, o₁⟩))
      refine S_cons (X_if (TT_cmp (T_num (T_name (l := .dat (Tm.atom n).enc) rfl ⟨.atom n, rfl, T_num_ 15 ok (O_eqi ⟨_, rfl, fun h => ?_, fun h => S_nil ?_⟩)⟩))))
      · refine S_cons <| X_retK kR <| T_def (a := 237) ok (by kernel_rfl) (by kernel_rfl) <| Ts_cons <| T_list <| Ts_cons <| T_name rfl <| Ts_cons <| T_name rfl <| Ts_nil ⟨[(Tm.atom n).enc, .tuple [.str "s", .int 10, .tuple [a, b]]], rfl, leT tT, Ts_nil <| OC_of (c_conjunction ok _ (by simp)) (lowOk (by exact tT)) .never fun l σ₃ ll ⟨hl, ho₃⟩ => ⟨ll, rfl, hl, ⟨_, (hS₁.off ho₃ (by exact tT)).mix, (Le.refl S).up (by omega)⟩, o₁.mix (ho₃.mono (by exact tT))⟩⟩
      · refine S_cons <| X_retK kR <| T_def (a := 343) ok (by kernel_rfl) (by kernel_rfl) <| Ts_cons <| T_name rfl <| Ts_cons <| T_name (l := .dat (Tm.atom n).enc) rfl <| Ts_cons <| T_name rfl <| Ts_cons <| T_name rfl <| Ts_nil <| OC_of (c_nonterminal ok hS₁ (by omega) (.atom n) trivial rfl a b) (lowOk (by exact tT)) .never fun l σ₃ ll ⟨hl, hS₃, ho₃⟩ => ?_
        obtain ⟨S', hS', hle⟩ := hS₃
        exact ⟨ll, rfl, hl, ⟨S', hS'.mix, hle⟩, o₁.mix (ho₃.mono (by exact tT))⟩
    -- a compound
    obtain ⟨hs, x0, r0, hargs⟩ := ofS hv hi ha
    refine S_cons (X_assign (T_num (T_name (l := .dat t.enc) rfl ⟨t, rfl, ?_⟩)))
    refine S_cons (X_if (TT_cmp (T_name rfl (T_num_ 0 ok (O_eqi ⟨_, rfl, fun h => ?_, fun h => S_nil ?_⟩)))))
    · have hn : t.num = 0 := by simpa using h
      obtain ⟨x, y, rfl⟩ : ∃ x y, t = .s2 0 x y := by
        cases t with
        | s2 f x y => exact ⟨x, y, by rw [show f = 0 from hn]⟩
        | s1 f x =>
          have hf : f = 0 := hn
          subst hf
          exact absurd (base_ar hB (f := 0) rfl ht.1) (by decide)
        | _ => exact absurd hs Bool.false_ne_true
      refine S_cons <| X_retK kR <| T_def (a := 350) ok (by kernel_rfl) (by kernel_rfl) <| Ts_cons <| T_name rfl <| Ts_cons <| T_name (l := .dat (Tm.s2 0 x y).enc) rfl <| Ts_cons <| T_name rfl <| Ts_cons <| T_name rfl <| Ts_nil <| OC_of (c_terminals ok hS₁ hB (by omega) e15 e16 (.s2 0 x y) ht (ht.2.1 rfl) ht' a b hb) (lowOk (by exact tT)) (.exE eE fun z ⟨F, e, ez⟩ => ⟨F, e, ez⟩) fun l σ₃ ll ⟨hn, hl, ho₃⟩ => ?_
      exact ⟨ll, hn, hl, ⟨_, (hS₁.off ho₃ (by exact tT)).mix, (Le.refl S).up (by omega)⟩, o₁.mix (ho₃.mono (by exact tT))⟩
    have hnf : plainFault t = none := by
      have hn : ¬ t.num = 0 := by simpa using h
      cases t with
      | s2 f x y => exact if_neg hn
      | s1 f x => rfl
      | _ => exact absurd hs Bool.false_ne_true
    refine S_cons (X_if (TT_cmp (T_name rfl (T_num_ 9 ok (O_eqi ⟨_, rfl, fun h => ?_, fun h => S_nil ?_⟩)))))
    · refine S_cons <| X_retK kR <| T_def (a := 237) ok (by kernel_rfl) (by kernel_rfl) <| Ts_cons <| T_list <| Ts_cons <| T_item0 <| T_args <| T_name (l := .dat t.enc) rfl ⟨t, rfl, hs, x0, r0, by rw [hargs], Ts_cons <| T_name rfl <| Ts_nil ⟨[x0, .tuple [.str "s", .int 10, .tuple [a, b]]], rfl, leT tT, Ts_nil <| OC_of (c_conjunction ok _ (by simp)) (lowOk (by exact tT)) .never fun l σ₃ ll ⟨hl, ho₃⟩ => ⟨ll, hnf, hl, ⟨_, (hS₁.off ho₃ (by exact tT)).mix, (Le.refl S).up (by omega)⟩, o₁.mix (ho₃.mono (by exact tT))⟩⟩⟩
    · refine S_cons <| X_retK kR <| T_def (a := 343) ok (by kernel_rfl) (by kernel_rfl) <| Ts_cons <| T_name rfl <| Ts_cons <| T_name (l := .dat t.enc) rfl <| Ts_cons <| T_name rfl <| Ts_cons <| T_name rfl <| Ts_nil <| OC_of (c_nonterminal ok hS₁ (by omega) t ht (by rw [hs, Bool.or_true]) a b) (lowOk (by exact tT)) .never fun l σ₃ ll ⟨hl, hS₃, ho₃⟩ => ?_
      obtain ⟨S', hS', hle⟩ := hS₃
      exact ⟨ll, hnf, hl, ⟨S', hS'.mix, hle⟩, o₁.mix (ho₃.mono (by exact tT))⟩
  · decide +kernel
end
noncomputable def FrAt (σ : Store) (k : Int) : Prop := σ 7 = .inst 290 8 ∧ σ 8 = .ns [("next", .dat (.int k))]
noncomputable def GvAt (σ : Store) (ks : List Int) : Prop := σ 9 = .inst 325 10 ∧ σ 10 = .ns [("fresh", .loc 7), ("used", .dat (.list (ks.map .int)))]
theorem FrAt.off {L : List Nat} {σ τ : Store} {k : Int} (h : FrAt σ k) (o : Off L σ τ) (h7 : (!memB 7 L) = true) (h8 : (!memB 8 L) = true) : FrAt τ k := ⟨(o 7 (by decide) (memB_not h7)).trans h.1, (o 8 (by decide) (memB_not h8)).trans h.2⟩
theorem GvAt.off {L : List Nat} {σ τ : Store} {ks : List Int} (h : GvAt σ ks) (o : Off L σ τ) (h7 : (!memB 9 L) = true) (h8 : (!memB 10 L) = true) : GvAt τ ks := ⟨(o 9 (by decide) (memB_not h7)).trans h.1, (o 10 (by decide) (memB_not h8)).trans h.2⟩
theorem FrAt.low {σ : Store} {k : Int} (h : FrAt σ k) : FrAt (Mine.low σ) k := h
theorem FrAt.mix {σ τ : Store} {k : Int} (h : FrAt τ k) : FrAt (Mine.mix τ σ) k := h
theorem GvAt.low {σ : Store} {k : List Int} (h : GvAt σ k) : GvAt (Mine.low σ) k := h
theorem GvAt.mix {σ τ : Store} {k : List Int} (h : GvAt τ k) : GvAt (Mine.mix τ σ) k := h
theorem count_next {k : Int} {ks : List Int} (h : ks.any (· == k) = true) : (ks.filter fun x => decide (k + 1 ≤ x)).length < (ks.filter fun x => decide (k ≤ x)).length := by
  have le : ∀ ks : List Int, (ks.filter fun x => decide (k + 1 ≤ x)).length ≤ (ks.filter fun x => decide (k ≤ x)).length := by
    intro ks
    induction ks with
    | nil => exact Nat.le_refl _
    | cons y r ih =>
      by_cases h1 : k + 1 ≤ y
      · rw [List.filter_cons_of_pos (by simpa using h1), List.filter_cons_of_pos (by simp; lia)]
        exact Nat.succ_le_succ ih
      · rw [List.filter_cons_of_neg (by simpa using h1)]
        by_cases h2 : k ≤ y
        · rw [List.filter_cons_of_pos (by simpa using h2)]; exact Nat.le_succ_of_le ih
        · rw [List.filter_cons_of_neg (by simpa using h2)]; exact ih
  induction ks with
  | nil => cases h
  | cons y r ih =>
    by_cases e : y = k
    · subst e
      rw [List.filter_cons_of_neg (by simp; lia), List.filter_cons_of_pos (by simp)]
      exact Nat.lt_succ_of_le (le r)
    · rw [List.any_cons, beq_eq_false_iff_ne.mpr e, Bool.false_or] at h
      have ih := ih h
      by_cases h1 : k + 1 ≤ y
      · rw [List.filter_cons_of_pos (by simpa using h1), List.filter_cons_of_pos (by simp; lia)]
        exact Nat.succ_lt_succ ih
      · rw [List.filter_cons_of_neg (by simpa using h1), List.filter_cons_of_neg (by simp; lia)]
        exact ih
section
variable {cx : Cx} {σ : Store}
theorem c_number (ok : CxOk cx) {k : Int} (h : FrAt σ k) : TC cx 0 (.ref 287) [.loc 7] σ (fun l σ' => l = .dat (.int k) ∧ FrAt σ' (k + 1) ∧ Off [8] σ σ') (fun _ => False) := by
  refine TC_fn2 (d := 0) (ls := [.loc 7]) ok (show _ = some (o287_6 cx.w.params) by kernel_rfl) (by kernel_rfl) ["self"] ?_ ?_ (by decide) ?_ ?_
  · exact bnd1 fun _ _ => BindsTo.of_eq rfl
  · decide +kernel
  · intro fD fE fK eE kR kN
    have h' := h.low
    refine S_cons (X_assign (T_attr ok (T_name rfl ⟨7, 290, 8, _, .dat (.int k), rfl, h'.1, h'.2, rfl, ⟨by kernel_rfl, by kernel_rfl, none, by kernel_rfl, by kernel_rfl⟩, by decide, (fun _ e => by cases e), ?_⟩)))
    refine S_cons (X_setattr ok (T_bin (T_name rfl (T_cint (O_add (T_name rfl ⟨7, 290, 8, _, rfl, by decide, h'.1, h'.2, by simp, ⟨by kernel_rfl, by kernel_rfl, by kernel_rfl, by kernel_rfl⟩, datLow _, ?_⟩))))))
    exact S_cons (X_retK kR (T_name rfl ⟨datLow _, rfl, ⟨h'.1, rfl⟩, Off.low.upd (by exact tT)⟩))
  · decide +kernel
theorem c_variable (ok : CxOk cx) {k : Int} {ks : List Int} (h : FrAt σ k) (g : GvAt σ ks) : TC cx 1 (.ref 322) [.loc 9] σ (fun l σ' => (∃ j, l = .dat (Tm.var j).enc) ∧ (∃ j, FrAt σ' j) ∧ Off [8] σ σ') (fun _ => False) := by
  refine TC_fn2 (d := 1) (ls := [.loc 9]) ok (show _ = some (o322_7 cx.w.params) by kernel_rfl) (by kernel_rfl) ["self"] ?_ ?_ (by decide) ?_ ?_
  · exact bnd1 fun _ _ => BindsTo.of_eq rfl
  · decide +kernel
  · intro fD fE fK eE kR kN
    have h' := h.low
    have g' := g.low
    have fa : ∀ n, n = ("fresh" : Str) ∨ n = "used" → FA cx.w 325 n := by
      rintro n (rfl | rfl) <;> exact ⟨by kernel_rfl, by kernel_rfl, none, by kernel_rfl, by kernel_rfl⟩
    have fm : FM cx.w 290 "number" 287 := ⟨by kernel_rfl, by kernel_rfl, by kernel_rfl, by kernel_rfl⟩
    refine S_cons (X_assign (T_meth ok (T_attr ok (T_name rfl ⟨9, 325, 10, _, .loc 7, rfl, g'.1, g'.2, rfl, fa _ (.inl rfl), by decide, (fun _ e => by cases e), ⟨7, 290, 8, _, 287, rfl, h'.1, h'.2, rfl, fm, by decide, Ts_nil (OC_e2 (c_number ok h') (lowOk (by exact tT)) .never fun σ₁ ll h₁ ho => ?_)⟩⟩))))
    refine S_cons (X_while (.exE eE) (fun n m τ => ∃ j, n = (ks.filter fun x => decide (j ≤ x)).length ∧ lk m "self" = some (.loc 9) ∧ lk m "k" = some (.dat (.int j)) ∧ FrAt τ (j + 1) ∧ GvAt τ ks ∧ Off [8] σ τ) _ ⟨k, rfl, rfl, rfl, h₁.mix, (g'.off ho (by exact tT) (by exact tT)).mix, Off.low.mix ho⟩ ?_)
    intro n m τ j
    obtain ⟨j, j⟩ := j
    refine and6 j fun j0 e1 e2 hf hg o => ?_
    clear j
    subst j0
    refine TT_cmp (T_name e2 (T_attr ok (T_name e1 ⟨9, 325, 10, _, .dat (.list (ks.map .int)), rfl, hg.1, hg.2, rfl, fa _ (.inr rfl), by decide, (fun _ e => by cases e), O_inL ⟨_, rfl, fun hc => ?_, fun hc => ?_⟩⟩)))
    · refine S_cons (X_assign (T_meth ok (T_attr ok (T_name e1 ⟨9, 325, 10, _, .loc 7, rfl, hg.1, hg.2, rfl, fa _ (.inl rfl), by decide, (fun _ e => by cases e), ⟨7, 290, 8, _, 287, rfl, hf.1, hf.2, rfl, fm, by decide, Ts_nil (OC_e2 (c_number ok hf) (lowOk (by exact tT)) .never fun σ₂ ll h₂ ho₂ => ?_)⟩⟩))))
      exact S_nil ⟨_, count_next hc, j + 1, rfl, (lkp_ne rfl).trans e1, lkp_same rfl, h₂.mix, (hg.off ho₂ (by exact tT) (by exact tT)).mix, o.mix ho₂⟩
    · refine S_cons (X_retK kR (T_def (a := 166) ok (by kernel_rfl) (by kernel_rfl) (Ts_cons (T_name e2 (Ts_nil (OC_of (c_var ok j) (lowOk (by exact tT)) .never fun l σ₂ ll ⟨hl, ho₂⟩ => ⟨ll, ⟨j, hl⟩, ⟨_, (hf.off ho₂ (by exact tT) (by exact tT)).mix⟩, o.mix (ho₂.mono (by exact tT))⟩))))))
  · decide +kernel
end
section
variable {cx : Cx} {fx : Fx} {E : Value → Shared → Prop} {d : Nat} {m : Locals} {σ : Store} {ρ : RM} {s : Shared}
/-- an object off the store, no sequence, no frame, no cell, has turned -/
theorem Rel.off (R : Rel cx fx ρ m σ s) {I : Addr} {h' : Heap} {t : Nat} (hI : ∀ o, s.heap.get? I = some o → ∀ vs k, o.data ≠ .seq vs k) (nI : ∀ n, ρ n ≠ some I) (bI : cx.base.get? I = none)
    (fI : ∀ f ∈ fx.fs, f.frame ≠ some I) (cI : ∀ c ∈ fx.cv, c.2.1 ≠ I) (k : ∀ b o, b ≠ I → s.heap.get? b = some o → h'.get? b = some o) : Rel cx fx ρ m σ { s with heap := h', toks := t } ∧ Carry ρ s.heap ρ h' := by
  have ne : ∀ b o vs k, s.heap.get? b = some o → o.data = .seq vs k → b ≠ I := fun b o vs k e n q => by
    subst q; exact hI _ e _ _ n
  have C : Carry ρ s.heap ρ h' := ⟨fun a o vs k' e _ d => ⟨o, k a o (ne a o _ _ e d) e, rfl, rfl⟩, fun a o vs k' e d q => ⟨q, o, k a o (ne a o _ _ e d) e, rfl, rfl⟩⟩
  have fr : ∀ f ∈ fx.fs, ∀ b o, f.frame = some b → s.heap.get? b = some o → h'.get? b = some o := fun f hf b o hb ho => k b o (fun q => fI f hf (q ▸ hb)) ho
  obtain ⟨mc, ⟨o, es, ep, e, r⟩, M⟩ := R.fr
  refine ⟨⟨⟨fun b o e => k b o (fun q => by rw [q, bI] at e; cases e) (R.base b o e), fun n a hn e => ?_, fun n a hn e => ?_, R.dom, R.inj, ff_on R.ff fun f hf b o hb ho hd => ⟨o, fr f hf b o hb ho, hd⟩, R.gens, R.os⟩,
    ⟨mc, ⟨o, es, ep, fr fx.env (.head _) _ _ rfl e, r⟩, M.carry C fun _ _ q => q⟩, ⟨R.hist.carry.trans C, fun f hf b o hb h0 => fr f (.tail _ hf) b o hb (R.hist.frames f hf b o hb h0)⟩, R.Lout, fun c hc => ?_⟩, C⟩
  · obtain ⟨x, y, z⟩ := R.st n a hn e
    obtain ⟨ob, q, _⟩ := z.cls
    exact ⟨x, y, z.carry C (fun _ _ _ q => q) ((k a ob (fun w => nI n (w ▸ e)) q).trans q.symm)⟩
  · obtain ⟨o, q, r⟩ := R.hi n a hn e
    exact ⟨o, k a o (fun w => nI n (w ▸ e)) q, r⟩
  · obtain ⟨h1, ⟨u, ⟨o, e, d⟩, r'⟩, h2⟩ := R.cv c hc
    exact ⟨h1, ⟨u, ⟨o, k _ o (cI c hc) e, d⟩, LRepO.carry C (fun _ _ _ q => q) r'⟩, h2⟩
theorem Ext.off' {N S ρ h ρ' h' h''} {I : Addr} (X : Ext N S ρ h ρ' h') (nI : h.get? I = none) (k : ∀ b o, b ≠ I → h'.get? b = some o → h''.get? b = some o) : Ext N S ρ h ρ' h'' := by
  have ne : ∀ a o, h.get? a = some o → a ≠ I := fun a o e q => by rw [q, nI] at e; cases e
  exact ⟨X.le, X.from_, fun a o e q hs => k a o (ne a o e) (X.keep a o e q hs), fun a o e => let ⟨o', e'⟩ := X.there a o e; ⟨o', k a o' (ne a o e) e'⟩⟩
/-- what the element of a comprehension must do -/
noncomputable def EltOk (cx : Cx) (fx : Fx) (d : Nat) (scope : Scope) (cl : List (Str × Addr)) (x : Str) (elt : Expr) (m : Locals) (σ : Store) (n : Nat) (xs : List PyData) (g : PyData → PyData) : Prop :=
  ∀ y ∈ xs, ∀ acc A ρ s C mC v (E' : Value → Shared → Prop), AOk A d fx → Rel cx fx ρ m (upd σ n (.list acc)) s → s.heap.Ns C mC → mC x = some v → DRep ρ s.heap y v →
    wpAny (model PW cx.w) A (eval elt (compEnvC scope cl C fx.env)) (fun v' s' => Keeps s s' ∧ DRep ρ s'.heap (g y) v') E' s
structure CompAt (cx : Cx) (fx : Fx) (ρ : RM) (s : Shared) (C : Addr) : Prop where
  ns : ∃ mC, s.heap.Ns C mC
  nC : ∀ n, ρ n ≠ some C
  bC : cx.base.get? C = none
  fC : ∀ f ∈ fx.fs, f.frame ≠ some C
  cC : ∀ c ∈ fx.cv, c.2.1 ≠ C
theorem CompAt.seq {C : Addr} (K : CompAt cx fx ρ s C) : ∀ o, s.heap.get? C = some o → ∀ vs k, o.data ≠ .seq vs k := fun o e vs k q => by
  obtain ⟨_, oC, es, ep, eC, dC, _⟩ := K.ns
  rw [e] at eC; cases eC; rw [dC] at q; cases q
theorem new_off {a : Addr} (R : Rel cx fx ρ m σ s) (ha : s.heap.get? a = none) : (∀ n, ρ n ≠ some a) ∧ cx.base.get? a = none ∧ (∀ f ∈ fx.fs, f.frame ≠ some a) ∧ (∀ c ∈ fx.cv, c.2.1 ≠ a) := by
  refine ⟨fun n q => ?_, ?_, fun f hf q => ?_, fun c hc q => ?_⟩
  · obtain ⟨ob, e⟩ := R.there q
    rw [ha] at e; cases e
  · cases e : cx.base.get? a with
    | none => rfl
    | some o' => rw [R.base _ _ e] at ha; cases ha
  · obtain ⟨L, ob, e1, e2⟩ := funFrames_in R.ff f hf
    rw [e1] at q; cases q; rw [ha] at e2; cases e2
  · obtain ⟨_, ⟨u, ⟨o, e, _⟩, _⟩, _⟩ := R.cv c hc
    rw [q, ha] at e; cases e
theorem keeps_rel {s' : Shared} (R : Rel cx fx ρ m σ s) (K : Keeps s s') : Rel cx fx ρ m σ s' ∧ Ext allN noS ρ s.heap ρ s'.heap := by
  obtain ⟨h', tk, rfl, k⟩ := K
  have X : Ext allN noS ρ s.heap ρ h' := ⟨fun _ _ _ e => e, fun _ _ e => .inl e, fun a o e _ _ => k a o e, fun a o e => ⟨o, k a o e⟩⟩
  have C := X.carry0 R.toRelC
  have R' : RelC cx fx.fs ρ σ { s with heap := h', toks := tk } := by
    refine ⟨fun b o e => k _ _ (R.base b o e), fun n a hn e => ?_, fun n a hn e => let ⟨o, q, r⟩ := R.hi n a hn e; ⟨o, k _ _ q, r⟩, R.dom, R.inj, ff_on R.ff fun f _ b o _ ho hd => ⟨o, k _ _ ho, hd⟩, R.gens, R.os⟩
    obtain ⟨x, y, z⟩ := R.st n a hn e
    obtain ⟨ob, q, _⟩ := z.cls
    exact ⟨x, y, z.carry C (fun _ _ _ q => q) ((k a ob q).trans q.symm)⟩
  exact ⟨R.next R' X, X⟩
theorem CompAt.ext {ρ' : RM} {s' : Shared} {C : Addr} (K : CompAt cx fx ρ s C) (X : Ext allN noS ρ s.heap ρ' s'.heap) : CompAt cx fx ρ' s' C := by
  obtain ⟨mC, oC, es, ep, eC, r⟩ := K.ns
  exact ⟨⟨mC, oC, es, ep, X.keep _ _ eC (fun n _ => K.nC n) id, r⟩, X.off eC K.nC, K.bC, K.fC, K.cC⟩
theorem upd2 (σ : Store) (n : Nat) (a b : AO) : upd (upd σ n a) n b = upd σ n b := by
  funext k
  by_cases h : k = n
  · subst h; rw [upd_self, upd_self]
  · rw [upd_ne h, upd_ne h, upd_ne h]
theorem comp_core {elt iter : Expr} {x : Str} {px pos : Pos} {scope : Scope} {cl : List (Str × Addr)} {n : Nat} {xs : List PyData} {g : PyData → PyData} {I : Addr} {ρ₀ : RM} {s₀ : Shared} {A : Around} {RR : Value → Addr → Result → Shared → Prop}
    (ok : AOk A d fx) (R : Rel cx fx ρ m σ s) (X₀ : Ext allN noS ρ₀ s₀.heap ρ s.heap) (nI0 : s₀.heap.get? I = none) (it : IterAt cx.w A cx.base ρ s.heap I xs) (hn : σ n = .free) (hl : n < 1000) (hz : xs.length ≤ 1000000) (hE : EltOk cx fx d scope cl x elt m σ n xs g)
    (hcell : ∀ y ∈ scope.names, y.2 ≠ .cell) (hkind : scope.kind = .function) (hx : scope.names.lookup x = some .local)
    (fin : ∀ ρ' C a s', ρ' n = some a → Rel cx fx ρ' m (upd σ n (.list (xs.map g))) s' → Ext allN noS ρ₀ s₀.heap ρ' s'.heap → s₀.heap.get? C = none → CompAt cx fx ρ' s' C → RR (.ref a) C (.ok .next) s') :
    wpAny (model PW cx.w) A (newList []) (fun acc s₃ => wpAny (model PW cx.w) A (newFunctionEnv scope fx.env.globals cl [] fx.env.qual none .none (some fx.env)) (fun cenv s₄ =>
      codeAny (model PW cx.w) A (.compStart (.ListComp elt [⟨.Name x px, iter, [], 0⟩] scope pos) 0 (.ref I) acc { cenv with scope := relabel scope fx.env }) (RR acc cenv.locals) s₄) E s₃) E s := by
  obtain ⟨fp, P, St, oI, vsI, W, hfp, nI, bI, gI, dI, st, hP, hSt⟩ := it
  refine wpAny_newObj_type ?_
  obtain ⟨R₁', X₁⟩ := R.toRelC.new (n := n) (ao := .list []) (lsObj [] 0) hn hl rfl ⟨[], 0, Heap.get?_push_size _ rfl, [], .nil, fun _ h => nomatch h⟩
  have R₁ := R.next R₁' X₁
  have C₁ := X₁.carry0 R.toRelC
  refine wpAny_newFunctionEnv hcell (by intro y hy; simp at hy) (fun h₂ hns hsb => ?_) hkind
  have eD : s.heap.push { cls := .type "list", dict := none, data := .seq ([] : List Value).toArray } = s.heap.push (lsObj [] 0) := rfl
  rw [eD] at hns hsb ⊢
  dsimp only at hns hsb ⊢
  generalize hD : s.heap.objs.size = D at *
  generalize hH : s.heap.push (lsObj [] 0) = H at *
  have hC : H.get? H.objs.size = none := Heap.get?_none_of_le (Nat.le_refl _)
  generalize hCC : H.objs.size = C at *
  have kC : ∀ b o, b ≠ C → H.get? b = some o → h₂.get? b = some o := fun b o hb e => hsb.extBut b o hb (Heap.get?_push_of_some _ e)
  obtain ⟨c1, c2, c3, c4⟩ := new_off (a := C) R₁ hC
  obtain ⟨R₂, C₂⟩ := Rel.off (h' := h₂) (t := s.toks + ([] : List (Str × Value)).length) R₁ (I := C) (fun o e => by rw [hC] at e; cases e) c1 c2 c3 c4 kC
  have hs0 : s₀.heap.get? C = none := by
    cases q : s₀.heap.get? C with
    | none => rfl
    | some o => obtain ⟨o', e⟩ := (X₀.trans X₁).there _ _ q; rw [hC] at e; cases e
  have K₂ : CompAt cx fx (setR ρ n D) { s with heap := h₂, toks := s.toks + ([] : List (Str × Value)).length } C := ⟨⟨_, hns⟩, c1, c2, c3, c4⟩
  have X₂ : Ext allN noS ρ₀ s₀.heap (setR ρ n D) h₂ := (X₀.trans X₁).off' hs0 kC
  have nI₂ : ∀ k, setR ρ n D k ≠ some I := X₁.off gI nI
  have eI₂ : h₂.get? I = some oI := kC I oI (fun q => by rw [← q, X₁.keep I oI gI (fun n _ => nI n) id] at hC; cases hC) (X₁.keep I oI gI (fun n _ => nI n) id)
  have stf : ∀ i ρ' h' h'', Carry ρ s.heap ρ' h' → St i h' → (∀ o, h'.get? I = some o → h''.get? I = some o) → (∀ b o vs k, h'.get? b = some o → o.data = .seq vs k → (∀ n, ρ' n ≠ some b) → h''.get? b = some o) → St i h'' := fun i ρ' h' h'' C' st' hi hq => by
    refine W.frame _ _ _ st' fun b hb o e => ?_
    rcases hfp b hb with rfl | f
    · exact hi o e
    · obtain ⟨⟨o', vs', k', e', d'⟩, u⟩ := f.carry C'
      rw [e] at e'; cases e'
      exact hq b o _ _ e d' u
  have st₂ : St 0 h₂ := by
    refine stf 0 _ _ _ (.refl _ _) st (fun o e => by rw [gI] at e; cases e; exact eI₂) fun b o vs k e dd u => kC b o (fun q => ?_) (X₁.keep b o e (fun n _ => u n) id)
    rw [← q, X₁.keep b o e (fun n _ => u n) id] at hC; cases hC
  have loop : codeAny (model PW cx.w) A (.compLoop (.ListComp elt [⟨.Name x px, iter, [], 0⟩] scope pos) 0 (.ref I) (.ref D) (compEnvC scope cl C fx.env)) (RR (.ref D) C) { s with heap := h₂, toks := s.toks + ([] : List (Str × Value)).length } := by
    refine codeAny_compLoop_tests (fun k s' => ∃ i ρ', k = xs.length + 1 - i ∧ i ≤ xs.length ∧ ρ' n = some D ∧ Rel cx fx ρ' m (upd σ n (.list ((xs.take i).map g))) s' ∧ Ext allN noS ρ₀ s₀.heap ρ' s'.heap ∧ Carry ρ s.heap ρ' s'.heap ∧ St i s'.heap ∧ CompAt cx fx ρ' s' C ∧ ∀ k, ρ' k ≠ some I)
      ?_ (xs.length + 1 - 0) ⟨0, _, rfl, Nat.zero_le _, setR_self .., R₂, X₂, C₁.trans C₂, st₂, K₂, nI₂⟩
    rintro k s' ⟨i, ρ', rfl, hi, eD', R', X', C', st', K', nI'⟩
    obtain ⟨o', vs', gI', dI'⟩ := hSt _ _ st'
    have fI : ∀ f ∈ fx.fs, f.frame ≠ some I := fun f hf q => frame_out R'.toRelC hf q gI' _ dI'
    have cI : ∀ c ∈ fx.cv, c.2.1 ≠ I := fun c hc q => by
      obtain ⟨_, ⟨u, ⟨o, e, d⟩, _⟩, _⟩ := R'.cv c hc
      rw [q, gI'] at e; cases e; rw [dI'] at d; cases d
    have sI : ∀ o, s'.heap.get? I = some o → ∀ vs k, o.data ≠ .seq vs k := fun o e vs k q => by rw [gI'] at e; cases e; rw [dI'] at q; cases q
    have CI : C ≠ I := fun q => by
      obtain ⟨_, oC, es, ep, eC, dC, _⟩ := K'.ns
      rw [q, gI'] at eC; cases eC; rw [dI'] at dC; cases dC
    by_cases hlt : i < xs.length
    · refine W.item i s' _ _ hlt st' fun v h₁ tk₁ hp st₁ k₁ => ?_
      have kI : ∀ b o, b ≠ I → s'.heap.get? b = some o → h₁.get? b = some o := fun b o hb => k₁ b o (fun hm => hb (List.mem_singleton.mp hm))
      obtain ⟨R₃, C₃⟩ := R'.off (h' := h₁) (t := tk₁) sI nI' bI fI cI kI
      obtain ⟨o'', _, gI'', dI''⟩ := hSt _ _ st₁
      obtain ⟨y, ey, ry⟩ := hP i v hp hlt
      obtain ⟨mC, nsC⟩ := K'.ns
      have nsC₃ : h₁.Ns C mC := nsC.at' fun o e => kI C o CI e
      refine wpAny_assign_Name (wpAny_storeName_local (lookup_relabel_local hx) nsC₃ (fun h₄ hn₄ hs₄ => ?_) (by simp [compEnvC, relabel, hkind]))
      have kC₄ : ∀ b o, b ≠ C → h₁.get? b = some o → h₄.get? b = some o := fun b o hb e => hs₄.extBut b o hb e
      have K₃ : CompAt cx fx ρ' { s' with heap := h₁, toks := tk₁ } C := ⟨⟨_, nsC₃⟩, K'.nC, K'.bC, K'.fC, K'.cC⟩
      obtain ⟨R₄, C₄⟩ := Rel.off (h' := h₄) (t := tk₁ + 1) R₃ K₃.seq K'.nC K'.bC K'.fC K'.cC kC₄
      have X₄ : Ext allN noS ρ₀ s₀.heap ρ' h₄ := (X'.off' nI0 kI).off' hs0 kC₄
      have CC₄ := (C'.trans C₃).trans C₄
      have st₄ : St (i + 1) h₄ := stf _ _ _ _ (C'.trans C₃) st₁ (fun o e => kC₄ I o (Ne.symm CI) e) fun b o vs k e dd _ => kC₄ b o (fun q => K₃.seq o (q ▸ e) _ _ dd) e
      refine wpAny_tests_nil ?_
      rw [if_pos rfl]
      refine wpAny_mono (hE y (List.mem_of_getElem? ey) _ A ρ' _ C _ v _ ok R₄ hn₄ (by simp) (ry.carry CC₄)) (fun v' s₅ ⟨K₅, d₅⟩ => ?_) fun _ _ h => h
      obtain ⟨R₅, X₅⟩ := keeps_rel R₄ K₅
      have C₅ := X₅.carry0 R₄.toRelC
      have take : (xs.take (i + 1)).map g = (xs.take i).map g ++ [g y] := by rw [List.take_add_one, ey]; simp
      refine wpAny_mono (OC_append (Q := fun _ σ' => σ' = upd σ n (.list ((xs.take (i + 1)).map g))) (upd_self ..) (by rw [List.length_map, List.length_take]; lia) (by rw [upd2, take]) hl A ρ' s₅ [.ref D, v'] ok R₅ (.cons ⟨D, eD', rfl⟩ (.cons d₅ .nil))) (fun u s₆ ⟨l, σ', ρ₆, X₆, R₆, _, q⟩ => ?_) fun _ _ h => h
      subst q
      have K₅' : CompAt cx fx ρ' s₅ C := CompAt.ext (s := { s' with heap := h₄, toks := tk₁ + 1 }) ⟨⟨_, hn₄⟩, K'.nC, K'.bC, K'.fC, K'.cC⟩ X₅
      have C₆ := X₆.carry0 R₅.toRelC
      have X45 := X₅.trans X₆
      refine ⟨xs.length + 1 - (i + 1), by lia, i + 1, ρ₆, rfl, hlt, X₆.le _ _ trivial eD', R₆, X₄.trans X45, (CC₄.trans C₅).trans C₆, ?_, K₅'.ext X₆, ?_⟩
      · exact stf _ _ _ _ CC₄ st₄ (fun o e => X45.keep I o e (fun n _ => nI' n) id) fun b o vs k e dd u => X45.keep b o e (fun n _ => u n) id
      · exact X45.off (kC₄ I _ (Ne.symm CI) gI'') nI'
    · have e : i = xs.length := by lia
      subst e
      refine W.done s' _ _ st' fun h₁ tk₁ k₁ => ?_
      have kI : ∀ b o, b ≠ I → s'.heap.get? b = some o → h₁.get? b = some o := fun b o hb => k₁ b o (fun hm => hb (List.mem_singleton.mp hm))
      obtain ⟨R₃, C₃⟩ := R'.off (h' := h₁) (t := tk₁) sI nI' bI fI cI kI
      obtain ⟨mC, nsC⟩ := K'.ns
      rw [List.take_length] at R₃
      exact fin ρ' C D _ eD' R₃ (X'.off' nI0 kI) hs0 ⟨⟨mC, nsC.at' fun o e => kI C o CI e⟩, K'.nC, K'.bC, K'.fC, K'.cC⟩
  exact codeAny_compStart_list loop (W.self 0 _ _ _ st₂ loop)
/-- a list comprehension over a plain iterable, without tests; its list is named n -/
theorem T_comp {elt iter : Expr} {x : Str} {px pos : Pos} {scope : Scope} {Q : LV → Store → Prop} (n : Nat) (cl : List (Str × Addr)) (g : PyData → PyData) (hclos : closureFor scope fx.env = pure cl)
    (h : TI cx fx E d iter m σ (fun xs σ₁ => σ₁ n = .free ∧ xs.length ≤ 1000000 ∧ EltOk cx fx d scope cl x elt m σ₁ n xs g ∧ Q (.loc n) (upd σ₁ n (.list (xs.map g)))))
    (hcell : ∀ y ∈ scope.names, y.2 ≠ .cell) (hnames : ∀ y ∈ scope.names, y.2 = .local → scope.names.lookup y.1 = some .local) (hx : scope.names.lookup x = some .local) (hl : n < 1000 := by decide)
    (hkind : scope.kind = .function := by rfl) (hs : ∀ x, foldedSetIterable iter fx.env x = pure x := by intro _; rfl) : TE cx fx E d (.ListComp elt [⟨.Name x px, iter, [], 0⟩] scope pos) m σ Q := fun A ρ s ok R => by
  rw [eval_ListComp]
  refine wpAny_comprehension_free (use := none) rfl hs hclos hkind hnames (wpAny_mono (h A ρ s ok R) (fun xv s₁ h₁ => wpAny_mono h₁ (fun it s₂ h₂ => ?_) fun _ _ e => e) fun _ _ e => e)
  obtain ⟨xs, σ', ρ', I, rfl, X, R', nI0, it, hn, hz, hE, q⟩ := h₂
  refine comp_core (RR := fun acc C => compPost (model PW cx.w) A E none (VP cx fx ρ m s Q) acc C) ok R' X nI0 it hn hl hz hE hcell hkind hx ?_
  intro ρ'' C a s' e R'' X'' hC K
  obtain ⟨mC, ns⟩ := K.ns
  refine ⟨mC, ns, fun h' hs' => ?_⟩
  have kC : ∀ b o, b ≠ C → s'.heap.get? b = some o → h'.get? b = some o := fun b o hb e => hs'.extBut b o hb e
  exact ⟨.loc n, _, ρ'', X''.off' hC kC, (R''.off (t := s'.toks) K.seq K.nC K.bC K.fC K.cC kC).1, ⟨a, e, rfl⟩, q⟩
theorem X_comp {elt iter : Expr} {x y : Str} {px py pos spos : Pos} {scope : Scope} {Q : Fl → Locals → Store → Prop} (n : Nat) (cl : List (Str × Addr)) (g : PyData → PyData) (hclos : closureFor scope fx.env = pure cl)
    (h : TI cx fx E d iter m σ (fun xs σ₁ => σ₁ n = .free ∧ xs.length ≤ 1000000 ∧ EltOk cx fx d scope cl x elt m σ₁ n xs g ∧ Q .next (putl m y (.loc n)) (upd σ₁ n (.list (xs.map g)))))
    (hcell : ∀ y ∈ scope.names, y.2 ≠ .cell) (hnames : ∀ y ∈ scope.names, y.2 = .local → scope.names.lookup y.1 = some .local) (hx : scope.names.lookup x = some .local) (hl : n < 1000 := by decide)
    (hkind : scope.kind = .function := by rfl) (hs : ∀ x, foldedSetIterable iter fx.env x = pure x := by intro _; rfl) (hk : fx.cs.kind = .function := by rfl) (hy : fx.env.kindOf y = some .local := by rfl)
    (hsw : swapsWith (.ListComp elt [⟨.Name x px, iter, [], 0⟩] scope pos) (some (.Name y py)) spos.line fx.env = pure true := by rfl) :
    TX cx fx E d (.Assign [.Name y py] (.ListComp elt [⟨.Name x px, iter, [], 0⟩] scope pos) spos) m σ Q := fun A ρ s ok R => by
  rw [exec_Assign_Name_used _ _ _ _ hsw]
  refine wpAny_bind (wpAny_standAt (wpAny_bind ?_))
  show wpAny _ A (do let _ ← comprehension (.ListComp elt [⟨.Name x px, iter, [], 0⟩] scope pos) scope fx.env _ (newList []) false (eval iter fx.env) (some (assign (.Name y py) fx.env))) _ _ s
  refine wpAny_bind (wpAny_mono (wpAny_comprehension_free (use := some (assign (.Name y py) fx.env)) (Q := fun _ s' => SP cx fx ρ s Q .next s') rfl hs hclos hkind hnames
    (wpAny_mono (h A ρ s ok R) (fun xv s₁ h₁ => wpAny_mono h₁ (fun it s₂ h₂ => ?_) fun _ _ e => e) fun _ _ e => e)) (fun _ s' hq => wpAny_pure (wpAny_pure hq)) fun _ _ e => e)
  obtain ⟨xs, σ', ρ', I, rfl, X, R', nI0, it, hn, hz, hE, q⟩ := h₂
  refine comp_core (RR := fun acc C => compPost (model PW cx.w) A E (some (assign (.Name y py) fx.env)) (fun _ s' => SP cx fx ρ s Q .next s') acc C) ok R' X nI0 it hn hl hz hE hcell hkind hx ?_
  intro ρ'' C a s' e R'' X'' hC K
  show wpAny _ A (assign (.Name y py) fx.env (.ref a)) _ _ _
  refine wpAny_assign_Name (store_local (l := .loc n) R'' ⟨a, e, rfl⟩ hk hy fun s₂ R₂ X₂ => ?_)
  obtain ⟨mC, oC, es, ep, eC, r⟩ := K.ns
  have eC₂ : s₂.heap.get? C = some oC := X₂.keep _ _ eC (fun n _ => K.nC n) (K.fC fx.env (.head _) <| congrArg some <| Eq.symm ·)
  refine ⟨mC, ⟨oC, es, ep, eC₂, r⟩, fun h' hs' => ?_⟩
  have kC : ∀ b o, b ≠ C → s₂.heap.get? b = some o → h'.get? b = some o := fun b o hb e => hs'.extBut b o hb e
  refine ⟨.next, _, _, ρ'', (X''.st.trans X₂).off' hC kC, (R₂.off (t := s₂.toks) (fun o e' vs k q => ?_) K.nC K.bC K.fC K.cC kC).1, trivial, q⟩
  rw [eC₂] at e'; cases e'; rw [r.1] at q; cases q
/-- the first statement of a body stores into a cell -/
theorem G_cell {y : Str} {p' p : Pos} {value : Expr} {rest : List Stmt} {a : Addr} {Q : Fl → Locals → Store → Prop} (hv : (y, a, none) ∈ fx.cv) (h : TE cx fx E d value m σ (fun l σ₁ => TS cx { fx with cv := [(y, a, some l)] } E d rest m σ₁ Q))
    (hk : fx.cs.kind = .function := by rfl) (hy : fx.env.kindOf y = some .cell := by rfl) (hs : swapsWith value (some (.Name y p')) p.line fx.env = pure false := by rfl) : TG cx fx E d (.Assign [.Name y p'] value p :: rest) m σ Q := fun A ρ s ok R new => by
  refine wpAny_execs_cons (wpAny_Assign_Name (wpAny_mono (h A ρ s ok R) (fun v s₁ ⟨l, σ₁, ρ₁, X₁, R₁, r₁, q⟩ => ?_) fun _ _ x => x) hs)
  obtain ⟨h1, ⟨u, hu, _⟩, h2⟩ := R₁.cv _ hv
  refine wpAny_storeName_cell hk hy h1 hu fun h' hc' hs' => ?_
  have hm := new a (.tail _ (List.mem_map.mpr ⟨_, mem_of_lookup h1, rfl⟩))
  obtain ⟨oc, ec, dc⟩ := hu
  have aL : a ≠ fx.L := fun q => by
    obtain ⟨_, ⟨oL, es, ep, eL, dL, _⟩, _⟩ := R₁.fr
    rw [← q, ec] at eL; cases eL; rw [dL] at dc; cases dc
  have ka : ∀ b o, b ≠ a → s₁.heap.get? b = some o → h'.get? b = some o := fun b o hb e => hs'.extBut b o hb e
  have R₁' : Rel cx { fx with cv := [] } ρ₁ m σ₁ s₁ := { R₁.toRelC with fr := R₁.fr, hist := ⟨R₁.hist.carry, R₁.hist.frames⟩, Lout := R₁.Lout, cv := fun c hc => nomatch hc }
  obtain ⟨R₂, C₂⟩ := Rel.off (h' := h') (t := s₁.toks) R₁' (fun o e vs k q => by rw [ec] at e; cases e; rw [dc] at q; cases q) h2 hm.2.1 (fun f hf q => by
    rcases List.mem_cons.mp hf with rfl | hf
    · exact aL (Option.some.inj q).symm
    · exact hm.2.2 f hf q) (fun c hc => nomatch hc) ka
  have cvR : ∀ c ∈ [(y, a, some l)], CellRep { fx with cv := [(y, a, some l)] } ρ₁ h' c := fun c hc => by
    rcases List.mem_cons.mp hc with rfl | hc
    · exact ⟨h1, ⟨some v, hc', LRep.carry C₂ (fun _ _ _ e => e) r₁⟩, h2⟩
    · cases hc
  have R₃ : Rel cx { fx with cv := [(y, a, some l)] } ρ₁ m σ₁ { s₁ with heap := h' } := { R₂.toRelC with fr := R₂.fr, hist := ⟨R₂.hist.carry, R₂.hist.frames⟩, Lout := R₂.Lout, cv := cvR }
  have X₃ : Ext permH (fun b => fx.h0.get? b = none) ρ s.heap ρ₁ h' := by
    refine ⟨fun n b _ e => X₁.le n b trivial e, X₁.from_, fun b o e k hn => ka b o (fun q => hn (q ▸ hm.1)) (X₁.keep b o e k id), fun b o e => ?_⟩
    obtain ⟨o', e'⟩ := X₁.there b o e
    by_cases hb : b = a
    · obtain ⟨o'', e'', _⟩ := hc'
      exact ⟨o'', hb ▸ e''⟩
    · exact ⟨o', ka b o' hb e'⟩
  refine wpAny_mono (q A ρ₁ { s₁ with heap := h' } ⟨ok.handled, ok.frames, ok.depth, ok.units, ok.same, ok.fA⟩ R₃) (fun f s' ⟨fl, m', σ', ρ', X, R', r, z⟩ => ?_) fun _ _ x => x
  exact ⟨fl, m', σ', ρ', _, X₃.trans (X.weaken (fun _ h => h) fun b e => by cases e; exact (new _ (.head _)).1), R', r, z⟩
end
section
variable {cx : Cx} {fx : Fx} {E : Value → Shared → Prop} {d : Nat} {m : Locals} {σ : Store}
/-- a list that an expression has built is frozen at once -/
theorem T_fz (n : Nat) {e : Expr} {Q : LV → Store → Prop} (hf : σ n = .free) (h : TE cx fx E d e m σ (fun l σ' => ∃ xs, l = .loc n ∧ σ' n = .list xs ∧ Q (.dat (.list xs)) (upd σ' n .free))) (hn : 32 ≤ n := by decide) (hl : n < 1000 := by decide) : TE cx fx E d e m σ Q := fun A ρ s ok R =>
  wpAny_mono (h A ρ s ok R) (fun v s' ⟨l, σ', ρ', X, R', r, xs, el, hx, q⟩ => by
    subst el
    obtain ⟨a, e, vs, j, g, D⟩ := named R' hx (hl := hl)
    obtain rfl := locEq e r
    obtain ⟨R₂, C⟩ := R'.toRelC.freeze hn hl
    have nr : ∀ k, unR ρ' n k ≠ some a := fun k z => by
      by_cases w : k = n
      · simp [unR, w] at z
      · exact w (R'.inj k n a (by simpa [unR, w] using z) e)
    have fz : DRep (unR ρ' n) s'.heap (.list xs) (.ref a) := by
      obtain ⟨as, r, f⟩ := D.carry C
      refine ⟨a :: as, .list g rfl rfl (by simpa using r), fun b hb => ?_⟩
      rcases List.mem_cons.mp hb with rfl | hb
      · exact ⟨⟨_, _, _, g, rfl⟩, nr⟩
      · exact f b hb
    have rn : ρ n = none := R.free hf hl
    have X₂ : Ext allN noS ρ s.heap (unR ρ' n) s'.heap := by
      refine ⟨fun k b _ eb => ?_, fun k b eb => ?_, X.keep, X.there⟩
      · have : k ≠ n := fun w => by rw [w, rn] at eb; cases eb
        simpa [unR, this] using X.le k b trivial eb
      · by_cases w : k = n
        · simp [unR, w] at eb
        · exact X.from_ k b (by simpa [unR, w] using eb)
    exact ⟨.dat (.list xs), _, _, X₂, R.next R₂ X₂, fz, q⟩) fun _ _ x => x
end
/-! the tree of a body -/
noncomputable def TreeAt (σ : Store) (N W : List PyData) : Prop := σ 11 = .inst 379 12 ∧ σ 12 = .ns [("nodes", .loc 13), ("waiting", .loc 14)] ∧ σ 13 = .list N ∧ σ 14 = .list W
theorem TreeAt.low {σ : Store} {N W : List PyData} (h : TreeAt σ N W) : TreeAt (Mine.low σ) N W := h
theorem TreeAt.mix {σ τ : Store} {N W : List PyData} (h : TreeAt τ N W) : TreeAt (Mine.mix τ σ) N W := h
theorem TreeAt.off {L : List Nat} {σ τ : Store} {N W : List PyData} (h : TreeAt σ N W) (o : Off L σ τ) (h1 : (!memB 11 L) = true) (h2 : (!memB 12 L) = true) (h3 : (!memB 13 L) = true) (h4 : (!memB 14 L) = true) : TreeAt τ N W :=
  ⟨(o 11 (by decide) (memB_not h1)).trans h.1, (o 12 (by decide) (memB_not h2)).trans h.2.1, (o 13 (by decide) (memB_not h3)).trans h.2.2.1, (o 14 (by decide) (memB_not h4)).trans h.2.2.2⟩
theorem faTree (w : World) (n : Str) (h : n = ("nodes" : Str) ∨ n = "waiting") : FA w 379 n := by
  rcases h with rfl | rfl <;> exact ⟨by kernel_rfl, by kernel_rfl, none, by kernel_rfl, by kernel_rfl⟩
section
variable {cx : Cx} {fx : Fx} {E : Value → Shared → Prop} {d : Nat} {m : Locals} {σ : Store}
/-- an attribute of the tree -/
theorem T_tree (ok : CxOk cx) {x : Str} {np p : Pos} {name : Str} {k : Nat} {N W : List PyData} {Q : LV → Store → Prop} (hx : lk m x = some (.loc 11)) (hT : TreeAt σ N W) (hn : (name = "nodes" ∧ k = 13) ∨ (name = "waiting" ∧ k = 14)) (q : Q (.loc k) σ)
    (hb : locB fx x = true := by exact tT)
    (he : eval (.Attribute (.Name x np) name p) fx.env = (do
      let o' ← eval (.Name x np) fx.env
      standAt p.atName
      let r ← holding [o'] (getAttr o' name true)
      letTemporaryGo (.Name x np) o' r
      pure r) := by with_unfolding_all rfl) : TE cx fx E d (.Attribute (.Name x np) name p) m σ Q :=
  T_attr ok (T_name hx ⟨11, 379, 12, _, .loc k, rfl, hT.1, hT.2.1, by rcases hn with ⟨rfl, rfl⟩ | ⟨rfl, rfl⟩ <;> rfl, faTree _ _ (hn.imp And.left And.left), by decide, (fun c e => by cases e), q⟩ hb) he
theorem forL_ind {x : Str} {b : List Stmt} {Q : Fl → Locals → Store → Prop} (xs : List PyData) (J : Nat → Locals → Store → Prop) (step : ∀ i y m σ, xs[i]? = some y → J i m σ → TS cx fx E d b (putl m x (.dat y)) σ (fun fl m' σ' => fl = .next ∧ J (i + 1) m' σ'))
    (fin : ∀ m σ, J xs.length m σ → Q .next m σ) (h0 : J 0 m σ) : ForL cx fx E d x b Q xs m σ := by
  have key : ∀ (ys pre : List PyData) (m : Locals) (σ : Store), xs = pre ++ ys → J pre.length m σ → ForL cx fx E d x b Q ys m σ := by
    intro ys
    induction ys with
    | nil => intro pre m σ e j; subst e; exact fin m σ (by simpa using j)
    | cons y ys ih =>
      intro pre m σ e j
      refine (step pre.length y m σ (by rw [e]; simp) j).mono fun fl m' σ' ⟨e', j'⟩ => ?_
      subst e'
      exact ih (pre ++ [y]) m' σ' (by rw [e]; simp) (by simpa using j')
  exact key xs [] m σ rfl h0
end
section
variable {cx : Cx} {σ : Store}
theorem c_treeInit (ok : CxOk cx) (x a b : PyData) (h1 : σ 11 = .inst 379 12) (h2 : σ 12 = .ns []) (h3 : σ 13 = .free) (h4 : σ 14 = .free) : TC cx 0 (.ref 364) [.loc 11, .dat x, .dat a, .dat b] σ (fun l σ' => l = .dat .none ∧ TreeAt σ' [.tuple [.str "goal", x]] [.tuple [.int 0, x, a, b]] ∧ Off [12, 13, 14] σ σ') (fun _ => False) := by
  refine TC_fn2 (d := 0) (ls := [.loc 11, .dat x, .dat a, .dat b]) ok (show _ = some (o364_8 cx.w.params) by kernel_rfl) (by kernel_rfl) ["self", "term", "first", "last"] ?_ ?_ (by decide) ?_ ?_
  · exact bnd4 fun _ _ _ _ _ => BindsTo.of_eq rfl
  · decide +kernel
  · intro fD fE fK eE kR kN
    have fs : ∀ n, n = ("nodes" : Str) ∨ n = "waiting" → FS cx.w 379 n := by
      rintro n (rfl | rfl) <;> exact ⟨by kernel_rfl, by kernel_rfl, by kernel_rfl, by kernel_rfl⟩
    refine S_cons <| X_setattr ok <| T_listN 13 <| Ts_cons <| T_tuple <| Ts_cons <| T_cstr <| Ts_cons <| T_name rfl <| Ts_nil ⟨[.str "goal", x], rfl, leT tT, Ts_nil ⟨_, rfl, leT tT, h3, T_name rfl ⟨11, 379, 12, _, rfl, by decide, h1, h2, by simp, fs _ (.inl rfl), ?_, ?_⟩⟩⟩
    · intro n e; cases e; decide
    refine S_cons <| X_setattr ok <| T_listN 14 <| Ts_cons <| T_tuple <| Ts_cons <| T_cint <| Ts_cons <| T_name rfl <| Ts_cons <| T_name rfl <| Ts_cons <| T_name rfl <| Ts_nil ⟨[.int 0, x, a, b], rfl, leT tT, Ts_nil ⟨_, rfl, leT tT, h4, T_name rfl ⟨11, 379, 12, _, rfl, by decide, h1, rfl, by simp [putl], fs _ (.inr rfl), ?_, S_nil (kN _ _ ⟨rfl, ⟨h1, rfl, rfl, rfl⟩, ?_⟩)⟩⟩⟩
    · intro n e; cases e; decide
    · exact ((((Off.low.upd (by exact tT)).upd (by exact tT)).upd (by exact tT)).upd (by exact tT))
  · decide +kernel
noncomputable abbrev P3 := PyData × PyData × PyData
noncomputable def P3.enc (p : P3) : PyData := .tuple [p.1, p.2.1, p.2.2]
noncomputable def goalOf (x : PyData) : PyData := .tuple [.str "goal", x]
noncomputable def placesFrom (n k : Nat) : List PyData := (List.range k).map fun i => .int ((n + i : Nat) : Int)
noncomputable def rowAt (n i : Nat) (p : P3) : PyData := .tuple [.int ((n + i : Nat) : Int), p.1, p.2.1, p.2.2]
noncomputable def rowsFrom (n : Nat) (ps : List P3) : List PyData := ps.mapIdx fun i p => rowAt n i p
theorem placesFrom_len (n k : Nat) : (placesFrom n k).length = k := by simp [placesFrom]
theorem placesFrom_succ (n k : Nat) : placesFrom n (k + 1) = placesFrom n k ++ [.int ((n + k : Nat) : Int)] := by simp [placesFrom, List.range_succ]
theorem placesFrom_get {n k i : Nat} (h : i < k) : (placesFrom n k)[i]? = some (.int ((n + i : Nat) : Int)) := by simp [placesFrom, h]
theorem rangeL_down_get : ∀ (n i : Nat) {y : Int}, (rangeL ((n : Int) - 1) (-1) n)[i]? = some y → y = ((n - 1 - i : Nat) : Int) ∧ i < n
  | 0, _, _, h => by cases h
  | n + 1, 0, y, h => by
    have : y = ((n + 1 : Nat) : Int) - 1 := by
      have h' : some (((n + 1 : Nat) : Int) - 1) = some y := h
      exact (Option.some.inj h').symm
    omega
  | n + 1, i + 1, y, h => by
    have e : ((n + 1 : Nat) : Int) - 1 + -1 = (n : Int) - 1 := by omega
    have h' : (rangeL (((n + 1 : Nat) : Int) - 1 + -1) (-1) n)[i]? = some y := h
    rw [e] at h'
    have := rangeL_down_get n i h'
    omega
theorem c_hold (ok : CxOk cx) (word : Str) (ps : List P3) (hz : ps.length ≤ 1000) {N W : List PyData} (hT : TreeAt σ N W) (hN : N.length ≤ 100000) (hW : W.length ≤ 100000) :
    TC cx 1 (.ref 371) [.loc 11, .dat (.str word), .dat (.list (ps.map P3.enc))] σ (fun l σ' => l = .dat (.tuple [.str word, .list (placesFrom N.length ps.length)]) ∧ TreeAt σ' (N ++ ps.map fun p => goalOf p.1) (W ++ (rowsFrom N.length ps).reverse) ∧ Off [13, 14] σ σ') (fun _ => False) := by
  refine TC_fn2 (d := 1) (ls := [.loc 11, .dat (.str word), .dat (.list (ps.map P3.enc))]) ok (show _ = some (o371_8 cx.w.params) by kernel_rfl) (by kernel_rfl) ["self", "word", "parts"] ?_ ?_ (by decide) ?_ ?_
  · exact bnd3 fun _ _ _ _ => BindsTo.of_eq rfl
  · decide +kernel
  · intro fD fE fK eE kR kN
    have hT' := hT.low
    refine S_cons <| X_assign <| T_listN 32 <| Ts_nil ⟨[], rfl, leT tT, rfl, ?_⟩
    refine S_cons <| X_for (.exE eE) (by decide) <| TI_list (by decide) <| T_name rfl ⟨ps.map P3.enc, rfl, ?_⟩
    refine forL_ind (ps.map P3.enc) (fun i m τ => lk m "self" = some (.loc 11) ∧ lk m "word" = some (.dat (.str word)) ∧ lk m "parts" = some (.dat (.list (ps.map P3.enc))) ∧ lk m "places" = some (.loc 32) ∧ τ 32 = .list (placesFrom N.length i) ∧ TreeAt τ (N ++ (ps.take i).map fun p => goalOf p.1) W ∧ Off [13, 14] σ τ) ?_ ?_ ⟨rfl, rfl, rfl, rfl, rfl, by simpa using (show TreeAt (upd (Mine.low σ) 32 (.list [])) N W from hT'), Off.low.upd (by exact tT)⟩
    · intro i y m τ hy j
      refine and7 j fun e1 e2 e3 e4 h32 hT₁ o => ?_
      clear j
      rw [List.getElem?_map] at hy
      obtain ⟨pp, hp, rfl⟩ := Option.map_eq_some_iff.mp hy
      have hi := (List.getElem?_eq_some_iff.mp hp).1
      have hlen : (N ++ (ps.take i).map fun p => goalOf p.1).length = N.length + i := by rw [List.length_append, List.length_map, List.length_take]; omega
      refine S_cons <| X_expr <| T_methB PySem.F.plainAttrs_list PySem.F.slot_list_append PySem.F.type_list_append <| T_name ((lkp_ne rfl).trans e4) ⟨32, rfl, by rw [h32]; rfl, by decide, Ts_cons <| T_len ok <| T_tree ok ((lkp_ne rfl).trans e1) hT₁ (.inl ⟨rfl, rfl⟩) ⟨_, .inr (.inr ⟨13, rfl, by decide, hT₁.2.2.1⟩), by rw [hlen]; omega, Ts_nil <| OC_append h32 (by rw [placesFrom_len]; omega) ⟨rfl, ?_⟩⟩⟩
      refine S_cons <| X_expr <| T_methB PySem.F.plainAttrs_list PySem.F.slot_list_append PySem.F.type_list_append <| T_tree ok (N := N ++ (ps.take i).map fun p => goalOf p.1) (W := W) ((lkp_ne rfl).trans e1) hT₁ (.inl ⟨rfl, rfl⟩) ⟨13, rfl, by rw [show upd τ 32 _ 13 = τ 13 from rfl, hT₁.2.2.1]; rfl, by decide, Ts_cons <| T_tuple <| Ts_cons <| T_cstr <| Ts_cons <| T_item0 <| T_name (lkp_same rfl) ⟨pp.1, _, rfl, Ts_nil ⟨[.str "goal", pp.1], rfl, leT tT, Ts_nil <| OC_append (n := 13) hT₁.2.2.1 (by rw [hlen]; omega) ⟨rfl, S_nil ⟨rfl, (lkp_ne rfl).trans e1, (lkp_ne rfl).trans e2, (lkp_ne rfl).trans e3, (lkp_ne rfl).trans e4, ?_, ⟨hT₁.1, hT₁.2.1, ?_, hT₁.2.2.2⟩, ?_⟩⟩⟩⟩⟩
      · show AO.list _ = AO.list _
        rw [placesFrom_succ, hlen]
      · show AO.list _ = AO.list _
        rw [List.take_add_one, hp]; simp [goalOf]
      · exact (o.upd (by exact tT)).upd (by exact tT)
    · intro m τ j
      refine and7 j fun e1 e2 e3 e4 h32 hT₁ o => ?_
      clear j
      rw [List.length_map] at h32 hT₁
      rw [List.take_length] at hT₁
      refine S_cons <| X_for (.exE eE) (by decide) <| TI_down ok (by decide) <| Ts_cons <| T_bin <| T_len ok <| T_name e3 ⟨ps.map P3.enc, .inl rfl, by rw [List.length_map]; omega, T_cint <| O_sub <| Ts_cons <| T_neg <| T_cint ⟨_, rfl, Ts_cons <| T_neg <| T_cint ⟨_, rfl, Ts_nil ⟨ps.length, ?_, by omega, ?_⟩⟩⟩⟩
      · rw [List.length_map]
      · have rl : (rowsFrom N.length ps).length = ps.length := by simp [rowsFrom]
        refine forL_ind _ (fun i m τ => lk m "self" = some (.loc 11) ∧ lk m "word" = some (.dat (.str word)) ∧ lk m "parts" = some (.dat (.list (ps.map P3.enc))) ∧ lk m "places" = some (.loc 32) ∧ τ 32 = .list (placesFrom N.length ps.length) ∧ TreeAt τ (N ++ ps.map fun p => goalOf p.1) (W ++ (rowsFrom N.length ps).reverse.take i) ∧ Off [13, 14] σ τ) ?_ ?_ ⟨e1, e2, e3, e4, h32, by simpa using hT₁, o⟩
        · intro i y m τ hy j
          refine and7 j fun e1 e2 e3 e4 h32 hT₁ o => ?_
          clear j
          rw [List.getElem?_map] at hy
          obtain ⟨k, hk, rfl⟩ := Option.map_eq_some_iff.mp hy
          obtain ⟨rfl, hi⟩ := rangeL_down_get _ _ hk
          obtain ⟨pp, hp⟩ : ∃ pp, ps[ps.length - 1 - i]? = some pp := ⟨_, List.getElem?_eq_getElem (by omega)⟩
          have hlen : (W ++ (rowsFrom N.length ps).reverse.take i).length = W.length + i := by rw [List.length_append, List.length_take, List.length_reverse, rl]; omega
          refine S_cons <| X_expr <| T_methB PySem.F.plainAttrs_list PySem.F.slot_list_append PySem.F.type_list_append <| T_tree ok (N := N ++ ps.map fun p => goalOf p.1) ((lkp_ne rfl).trans e1) hT₁ (.inr ⟨rfl, rfl⟩) ⟨14, rfl, by rw [hT₁.2.2.2]; rfl, by decide, Ts_cons <| T_bin <| T_tuple <| Ts_cons <| T_sub <| T_name ((lkp_ne rfl).trans e4) <| T_name (lkp_same rfl) <| O_itemN (x := .int ((N.length + (ps.length - 1 - i) : Nat) : Int)) h32 (by omega) ?_ (Ts_nil ⟨[.int ((N.length + (ps.length - 1 - i) : Nat) : Int)], rfl, leT tT, T_sub <| T_name ((lkp_ne rfl).trans e3) <| T_name (lkp_same rfl) <| O_itemL (x := pp.enc) (by omega) ?_ (O_addT (by simp) <| Ts_nil <| OC_append (n := 14) hT₁.2.2.2 (by rw [hlen]; omega) ⟨rfl, S_nil ⟨rfl, (lkp_ne rfl).trans e1, (lkp_ne rfl).trans e2, (lkp_ne rfl).trans e3, (lkp_ne rfl).trans e4, h32, ⟨hT₁.1, hT₁.2.1, hT₁.2.2.1, ?_⟩, o.upd (by exact tT)⟩⟩) (by omega)⟩) (by omega)⟩
          · rw [Int.toNat_natCast]; exact placesFrom_get (by omega)
          · rw [Int.toNat_natCast, List.getElem?_map, hp]; rfl
          · show AO.list _ = AO.list _
            rw [List.take_add_one, List.getElem?_reverse (by rw [rl]; exact hi), rl]
            simp [rowsFrom, rowAt, hp]
        · intro m τ j
          refine and7 j fun e1 e2 e3 e4 h32 hT₁ o => ?_
          clear j
          rw [List.length_map, rangeL_len, ← rl, ← List.length_reverse, List.take_length] at hT₁
          refine S_freeze 32 h32 <| S_cons <| X_retK kR <| T_tuple <| Ts_cons <| T_name (lk_thaw e2) <| Ts_cons <| T_name (lk_thaw e4) <| Ts_nil ⟨[.str word, .list (placesFrom N.length ps.length)], rfl, leT tT, datLow _, rfl, ⟨hT₁.1, hT₁.2.1, hT₁.2.2.1, hT₁.2.2.2⟩, o.upd (by exact tT)⟩
  · decide +kernel
end
section
variable {cx : Cx} {fx : Fx} {E : Value → Shared → Prop} {d : Nat} {m : Locals} {σ : Store} {ρ : RM} {s : Shared}
/-- names in a comprehension's own scope -/
theorem elt_cell {scope : Scope} {cl : List (Str × Addr)} {C : Addr} {x : Str} {p : Pos} {a : Addr} {l : LV} {A : Around} {Q : Value → Shared → Prop} (R : Rel cx fx ρ m σ s) (hc : (x, a, some l) ∈ fx.cv) (q : ∀ v, LRep ρ s.heap l v → Q v s) (hcl : cl.lookup x = some a := by rfl)
    (hk : (compEnvC scope cl C fx.env).scope.kind = .function := by rfl) (hx : (compEnvC scope cl C fx.env).kindOf x = some .cell := by rfl) (hd : (x == ("__debug__" : Str)) = false := by rfl) : wpAny (model PW cx.w) A (eval (.Name x p) (compEnvC scope cl C fx.env)) Q E s := by
  obtain ⟨_, ⟨v, hv, r⟩, _⟩ := R.cv _ hc
  cases v with
  | none => exact r.elim
  | some v => exact wpAny_Name (wpAny_loadName_cell hk hx hcl hv (q v r)) hd
theorem elt_loc {scope : Scope} {cl : List (Str × Addr)} {C : Addr} {x : Str} {p : Pos} {mC : Str → Option Value} {v : Value} {A : Around} {Q : Value → Shared → Prop} (ns : s.heap.Ns C mC) (e : mC x = some v) (q : Q v s)
    (hk : (compEnvC scope cl C fx.env).scope.kind = .function := by rfl) (hx : (compEnvC scope cl C fx.env).kindOf x = some .local := by rfl) (hd : (x == ("__debug__" : Str)) = false := by rfl) : wpAny (model PW cx.w) A (eval (.Name x p) (compEnvC scope cl C fx.env)) Q E s :=
  wpAny_Name (wpAny_loadName_local hk hx ns e q) hd
theorem keepsRefl (s : Shared) : Keeps s s := ⟨s.heap, s.toks, rfl, fun _ _ h => h⟩
end
section
variable {cx : Cx} {fx : Fx} {E : Value → Shared → Prop} {d : Nat} {m : Locals} {σ : Store}
theorem forL_any {x : Str} {b : List Stmt} {Q : Fl → Locals → Store → Prop} {P : PyData → Prop} (J : Locals → Store → Prop) : ∀ {xs : List PyData} {m : Locals} {σ : Store}, (∀ y ∈ xs, P y) → J m σ →
    (∀ y m σ, P y → J m σ → TS cx fx E d b (putl m x (.dat y)) σ (fun fl m' σ' => match fl with | .next => J m' σ' | .cont => J m' σ' | .brk => Q .next m' σ' | .ret l => Q (.ret l) m' σ')) → (∀ m σ, J m σ → Q .next m σ) → ForL cx fx E d x b Q xs m σ
  | [], _, _, _, h0, _, fin => fin _ _ h0
  | y :: ys, m, σ, hP, h0, step, fin => (step y m σ (hP y (.head _)) h0).mono fun fl m' σ' j => by
    cases fl with
    | next => exact forL_any J (fun z hz => hP z (.tail _ hz)) j step fin
    | cont => exact forL_any J (fun z hz => hP z (.tail _ hz)) j step fin
    | brk => exact j
    | ret l => exact j
end
noncomputable def fxOfC (cn : Str) (cs : Scope) (a : Addr) (cd : Value) (D : Dy) (cv : List (Str × Addr × Option LV)) : Fx := ⟨cn, cs, D.L, a, cd, D.outer, D.ρ0, D.h0, D.A, cellsFrom (D.L + 1) cs.names [], cv⟩
theorem TC_fnC2 {cx : Cx} {d : Nat} {ls : List LV} {σ : Store} {Q : LV → Store → Prop} {X : PyData → Prop} {name qual : Str} {params : Arguments} {body : List Stmt} {scope : Scope} {dV kV doc pm cdv ct oc : Value} {an od : Option Addr} {osl : Array (Option Value)} {f : Addr} (ok : CxOk cx)
    (ho : (KF cx.w.params).lookup f = some ⟨oc, od, .func (fnX name qual params body scope [] dV kV doc pm an cdv ct), osl⟩) (hcd : codeIn (KF cx.w.params) cdv qual = true) (names : List Str)
    (hbind : ∀ vs, vs.length = ls.length → bindArgs (fnX name qual params body scope [] dV kV doc pm an cdv ct) ⟨vs, []⟩ = pure (names.zip vs))
    (cn : List Str) (hloc : ∀ y ∈ names, scope.names.lookup y = some .local ∨ (scope.names.lookup y = some .cell ∧ y ∈ cn)) (hcn : ∀ y ∈ cn, scope.names.lookup y = some .cell ∧ ∀ n, ((cellsFrom n scope.names []).lookup y).isSome = true) (hnd : names.Nodup)
    (h : ∀ D E K cv, E = EX cx (fxOfC qual scope f cdv D cv) X → RetK Q K → (∀ y ∈ cn, ∃ a, (cellsFrom (D.L + 1) scope.names []).lookup y = some a ∧ (y, a, lk (names.zip ls) y) ∈ cv) → (∀ c ∈ cv, ∃ y, c.2.2 = lk (names.zip ls) y) → TG cx (fxOfC qual scope f cdv D cv) E d body ((names.zip ls).filter fun p => scope.names.lookup p.1 == some .local) (low σ) K)
    (hco : scope.isCoroutine = false := by rfl) (hgen : scope.isGenerator = false := by rfl) (hk : scope.kind = .function := by rfl) : TC cx d (.ref f) ls σ Q X :=
  TC_fnC ok ho hcd names hbind cn hloc hcn hnd (fun L outer ρ0 h0 A cv h1 h2 => h ⟨L, outer, ρ0, h0, A⟩ _ (Ends Q) cv rfl (fun _ _ _ ⟨a, b⟩ => ⟨a, b⟩) h1 h2) hco hgen hk
/-- a node of the tree -/
noncomputable def WfNode (n : Nat) (y : PyData) : Prop := ∃ w h, y = .tuple [.str w, h] ∧ (sb w "goal" = true ∨ ∃ ks : List Int, h = .list (ks.map .int) ∧ (∀ k ∈ ks, 0 ≤ k ∧ k < n) ∧ ks ≠ [] ∧ ks.length ≤ 1000 ∧ (sb w "then" = true → 2 ≤ ks.length))
section
variable {cx : Cx} {σ : Store}
set_option maxHeartbeats 1000000 in
theorem c_goal (ok : CxOk cx) {N W : List PyData} (hT : TreeAt σ N W) (hN : N.length ≤ 100000) (hp : 0 < N.length) (hw : ∀ y ∈ N, WfNode N.length y) :
    TC cx 2 (.ref 376) [.loc 11] σ (fun l σ' => (∃ x, l = .dat x) ∧ Off [] σ σ') (fun _ => False) := by
  refine TC_fnC2 (d := 2) (ls := [.loc 11]) ok (show _ = some (o376_8 cx.w.params) by kernel_rfl) (by kernel_rfl) ["self"] ?_ ["goals"] ?_ ?_ (by decide) ?_
  · exact bndc fun _ => bndn rfl
  · decide +kernel
  · intro y hy
    rw [List.mem_singleton.mp hy]
    exact ⟨by decide +kernel, fun n => rfl⟩
  · intro fD fE fK cv eE kR hcv _
    have hT' := hT.low
    obtain ⟨a, ea, hm⟩ := hcv "goals" (.head _)
    refine G_cell (a := a) hm (T_bin <| T_listN 33 <| Ts_cons <| T_cnone <| Ts_nil ⟨[.none], rfl, leT tT, rfl, T_len ok <| T_tree ok rfl hT' (.inl ⟨rfl, rfl⟩) ⟨N, .inr (.inr ⟨13, rfl, by decide, hT'.2.2.1⟩), by omega, O_mulN 32 (p := 33) rfl (by omega) rfl ?_⟩⟩)
    refine S_cons <| X_for (.exE eE) (by decide) <| TI_down ok (by decide) <| Ts_cons <| T_bin <| T_len ok <| T_tree ok rfl hT' (.inl ⟨rfl, rfl⟩) ⟨N, .inr (.inr ⟨13, rfl, by decide, hT'.2.2.1⟩), by omega, T_cint <| O_sub <| Ts_cons <| T_neg <| T_cint ⟨_, rfl, Ts_cons <| T_neg <| T_cint ⟨_, rfl, Ts_nil ⟨N.length, rfl, by omega, ?_⟩⟩⟩⟩
    refine forL_any (P := fun y => ∃ k : Int, y = .int k ∧ 0 ≤ k ∧ k < N.length) (fun m τ => lk m "self" = some (.loc 11) ∧ (∃ gs, τ 32 = .list gs ∧ gs.length = N.length) ∧ τ 34 = .free ∧ TreeAt τ N W ∧ Off [] σ τ) ?_ ⟨rfl, ⟨_, rfl, by simp⟩, rfl, hT', (Off.low.upd (by exact tT)).upd (by exact tT)⟩ ?_ ?_
    · intro y hy
      obtain ⟨k, hk, rfl⟩ := List.mem_map.mp hy
      have := rangeL_down _ hk
      exact ⟨k, rfl, this.1, by omega⟩
    · intro y m τ jj j
      obtain ⟨k, jj⟩ := jj
      refine and3 jj fun jj0 h0 h1 => ?_
      clear jj
      subst jj0
      refine and5 j fun e1 j1 h34 hT₁ o => ?_
      clear j
      obtain ⟨gs, h32, hgs⟩ := j1
      obtain ⟨nd, hnd⟩ := get_some h0 h1
      obtain ⟨w, h, rfl, hwf⟩ := hw nd (List.mem_of_getElem? hnd)
      refine S_cons <| X_unpack (names := [("word", _), ("held", _)]) (by decide) (T_sub <| T_tree ok ((lkp_ne rfl).trans e1) hT₁ (.inl ⟨rfl, rfl⟩) <| T_name (lkp_same rfl) <| O_itemN hT₁.2.2.1 h0 hnd ⟨[.str w, h], rfl, rfl, ?_⟩ (by omega)) (by intro x hx; simp only [List.mem_cons, List.not_mem_nil, or_false] at hx; rcases hx with rfl | rfl <;> rfl)
      show TS _ _ _ _ _ (putl (putl (putl m "place" (.dat (.int k))) "word" (.dat (.str w))) "held" (.dat h)) _ _
      have f1 : lk (putl (putl (putl m "place" (.dat (.int k))) "word" (.dat (.str w))) "held" (.dat h)) "self" = some (.loc 11) := (lkp_ne rfl).trans ((lkp_ne rfl).trans ((lkp_ne rfl).trans e1))
      have f2 : lk (putl (putl (putl m "place" (.dat (.int k))) "word" (.dat (.str w))) "held" (.dat h)) "place" = some (.dat (.int k)) := (lkp_ne rfl).trans ((lkp_ne rfl).trans (lkp_same rfl))
      have f3 : lk (putl (putl (putl m "place" (.dat (.int k))) "word" (.dat (.str w))) "held" (.dat h)) "word" = some (.dat (.str w)) := (lkp_ne rfl).trans (lkp_same rfl)
      have f4 : lk (putl (putl (putl m "place" (.dat (.int k))) "word" (.dat (.str w))) "held" (.dat h)) "held" = some (.dat h) := lkp_same rfl
      generalize putl (putl (putl m "place" (.dat (.int k))) "word" (.dat (.str w))) "held" (.dat h) = m at f1 f2 f3 f4
      refine S_cons <| X_if <| TT_cmp <| T_name f3 <| T_cstr <| O_eqs ⟨_, rfl, fun hg => ?_, fun hg => S_nil ?_⟩
      · refine S_cons <| X_sub <| T_name f4 <| T_cell (a := a) (l := .loc 32) (.head _) <| T_name f2 <| OU_L h32 h0 (by omega) (by omega) ?_
        exact S_cons <| X_cont ⟨f1, ⟨_, rfl, by simpa using hgs⟩, h34, hT₁, o.upd (by exact tT)⟩
      obtain ⟨ks, rfl, hks, hne, hlen, hthen⟩ : ∃ ks : List Int, h = .list (ks.map .int) ∧ (∀ k ∈ ks, 0 ≤ k ∧ k < N.length) ∧ ks ≠ [] ∧ ks.length ≤ 1000 ∧ (sb w "then" = true → 2 ≤ ks.length) := hwf.resolve_left (fun q => by rw [show sb w "goal" = false from hg] at q; cases q)
      refine S_cons <| X_comp 34 [("goals", a)] (fun y => match y with | .int k => (gs[k.toNat]?).getD .none | _ => .none) ?_ (TI_list (by decide) <| T_name f4 ⟨ks.map .int, rfl, h34, by rw [List.length_map]; omega, ?_, ?_⟩) ?_ ?_ ?_
      · have hL : a = fD.L + 1 := by
          have z : (cellsFrom (fD.L + 1) (fS (TM 47 2)).names []).lookup ("goals" : Str) = some (fD.L + 1) := rfl
          exact Option.some.inj (ea.symm.trans z)
        subst hL
        with_unfolding_all rfl
      · intro y hy acc A' ρ s C mC v E' ok' R ns hv r
        obtain ⟨j, hj, rfl⟩ := List.mem_map.mp hy
        obtain ⟨j0, j1⟩ := hks j hj
        obtain ⟨u, rfl⟩ := of_int r
        obtain ⟨x, hx⟩ := get_some (xs := gs) j0 (by omega)
        refine Subscript_ (elt_cell (a := a) (l := .loc 32) R (.head _) (fun o ro => elt_loc ns hv ?_))
        obtain ⟨b, eb, vs, j', g, D⟩ := named (n := 32) (o := .list gs) R ((upd_ne (by decide)).trans h32)
        obtain rfl := locEq eb ro
        obtain ⟨v, hv', rv⟩ := D.get hx
        have ht : s.heap.IsList b vs.toArray := ⟨_, g, rfl, _, rfl⟩
        refine tail_any ht.typeIs slot_list_getitem.lookup (wpAny_getItem_list ht j0 (by omega) (by simpa using hv') ⟨keepsRefl _, ?_⟩) (by with_unfolding_all rfl)
        show DRep ρ s.heap ((gs[j.toNat]?).getD .none) v
        rw [hx]; exact rv
      · generalize hxs : (ks.map PyData.int).map (fun y => match y with | .int k => (gs[k.toNat]?).getD .none | _ => .none) = xs
        have hxl : xs.length = ks.length := by rw [← hxs, List.length_map, List.length_map]
        have fz : ∀ c ∈ [(("goals" : Str), a, some (LV.loc 32))], c.2.2 ≠ some (.loc 34) := by
          intro c h
          rw [List.mem_singleton.mp h]
          intro q; cases q
        have g1 := (lkp_ne (x := "inner") (v := LV.loc 34) rfl).trans f1
        have g2 := (lkp_ne (x := "inner") (v := LV.loc 34) rfl).trans f2
        have g3 := (lkp_ne (x := "inner") (v := LV.loc 34) rfl).trans f3
        have g5 : lk (putl m "inner" (.loc 34)) "inner" = some (.loc 34) := lkp_same rfl
        show TS _ _ _ _ _ (putl m "inner" (.loc 34)) _ _
        generalize putl m "inner" (.loc 34) = m at g1 g2 g3 g5
        have t1 := lk_thaw (n := 34) (xs := xs) g1
        have t2 := lk_thaw (n := 34) (xs := xs) g2
        have t5 := lk_thaw (n := 34) (xs := xs) g5
        have kpos : 0 < ks.length := List.length_pos_iff.mpr hne
        obtain ⟨x0, hx0⟩ : ∃ x, xs[(0 : Int).toNat]? = some x := get_some (by decide) (by omega)
        refine S_cons <| X_if <| TT_cmp <| T_name g3 <| T_cstr <| O_eqs ⟨_, rfl, fun hw' => ?_, fun hw' => ?_⟩
        · refine S_freeze 34 (upd_self ..) ?_ (by decide) (by decide) fz
          refine S_cons <| X_sub <| T_def (a := 237) ok (by kernel_rfl) (by kernel_rfl) <| Ts_cons <| T_name (l := .dat (.list xs)) t5 <| Ts_nil <| OC_x1 (c_conjunction ok xs (by omega)) (lowOk (by exact tT)) .never fun x σ₃ ll ho₃ => ?_
          refine T_cell (a := a) (l := .loc 32) (.head _) <| T_name t2 <| OU_L (xs := gs) h32 h0 (by omega) (by omega) ?_
          exact S_nil <| S_nil <| ⟨t1, ⟨_, rfl, by simpa using hgs⟩, rfl, hT₁.off (L := []) ((((Off.refl.upd (by exact tT)).upd (by exact tT)).mix ho₃).upd (by exact tT)) (by exact tT) (by exact tT) (by exact tT) (by exact tT), (((o.upd (by exact tT)).upd (by exact tT)).mix ho₃).upd (by exact tT)⟩
        refine S_cons <| X_if <| TT_cmp <| T_name g3 <| T_cstr <| O_eqs ⟨_, rfl, fun hw' => ?_, fun hw' => ?_⟩
        · obtain ⟨x1, hx1⟩ : ∃ x, xs[(1 : Int).toNat]? = some x := get_some (by decide) (by have := hthen hw'; omega)
          refine S_freeze 34 (upd_self ..) ?_ (by decide) (by decide) fz
          refine S_cons <| X_sub <| T_def (a := 180) ok (by kernel_rfl) (by kernel_rfl) <| Ts_cons <| T_num_ 3 ok <| Ts_cons <| T_tuple <| Ts_cons <| T_sub <| T_name t5 <| T_cint <| O_itemL (by decide) hx0 <| Ts_cons <| T_sub <| T_name t5 <| T_cint <| O_itemL (by decide) hx1 <| Ts_nil ⟨[x0, x1], rfl, leT tT, Ts_nil <| OC_e1 (c_struct ok 3 [x0, x1]) (lowOk (by exact tT)) .never fun σ₃ ll ho₃ => ?_⟩
          refine T_cell (a := a) (l := .loc 32) (.head _) <| T_name t2 <| OU_L (xs := gs) h32 h0 (by omega) (by omega) ?_
          exact S_nil <| S_nil <| S_nil <| ⟨t1, ⟨_, rfl, by simpa using hgs⟩, rfl, hT₁.off (L := []) ((((Off.refl.upd (by exact tT)).upd (by exact tT)).mix ho₃).upd (by exact tT)) (by exact tT) (by exact tT) (by exact tT) (by exact tT), (((o.upd (by exact tT)).upd (by exact tT)).mix ho₃).upd (by exact tT)⟩
        refine S_cons <| X_if <| TT_cmp <| T_name g3 <| T_cstr <| O_eqs ⟨_, rfl, fun hw' => ?_, fun hw' => ?_⟩
        · refine S_freeze 34 (upd_self ..) ?_ (by decide) (by decide) fz
          refine S_cons <| X_sub <| T_def (a := 180) ok (by kernel_rfl) (by kernel_rfl) <| Ts_cons <| T_num_ 4 ok <| Ts_cons <| T_tuple <| Ts_cons <| T_sub <| T_name t5 <| T_cint <| O_itemL (by decide) hx0 <| Ts_nil ⟨[x0], rfl, leT tT, Ts_nil <| OC_e1 (c_struct ok 4 [x0]) (lowOk (by exact tT)) .never fun σ₃ ll ho₃ => ?_⟩
          refine T_cell (a := a) (l := .loc 32) (.head _) <| T_name t2 <| OU_L (xs := gs) h32 h0 (by omega) (by omega) ?_
          exact S_nil <| S_nil <| S_nil <| S_nil <| ⟨t1, ⟨_, rfl, by simpa using hgs⟩, rfl, hT₁.off (L := []) ((((Off.refl.upd (by exact tT)).upd (by exact tT)).mix ho₃).upd (by exact tT)) (by exact tT) (by exact tT) (by exact tT) (by exact tT), (((o.upd (by exact tT)).upd (by exact tT)).mix ho₃).upd (by exact tT)⟩
        · obtain ⟨us, z, rfl⟩ : ∃ us z, xs = us ++ [z] := ⟨_, _, (List.dropLast_concat_getLast (List.ne_nil_of_length_pos (by omega))).symm⟩
          refine S_cons <| X_assign <| T_methB PySem.F.plainAttrs_list PySem.F.slot_list_pop PySem.F.type_list_pop <| T_name g5 ⟨34, rfl, by rw [upd_self]; rfl, by decide, Ts_nil <| OC_pop (upd_self ..) (by rw [List.length_append] at hxl; omega) ?_⟩
          rw [upd2]
          refine S_cons <| X_while (.exE eE) (fun n m τ' => ∃ vs, n = vs.length ∧ vs.length ≤ 1000 ∧ lk m "self" = some (.loc 11) ∧ lk m "place" = some (.dat (.int k)) ∧ lk m "inner" = some (.loc 34) ∧ (∃ x, lk m "done" = some (.dat x)) ∧ τ' 34 = .list vs ∧ τ' 32 = .list gs ∧ TreeAt τ' N W ∧ Off [] σ τ') us.length ⟨us, rfl, ?_, (lkp_ne rfl).trans g1, (lkp_ne rfl).trans g2, (lkp_ne rfl).trans g5, ⟨z, lkp_same rfl⟩, upd_self .., h32, hT₁, o.upd (by exact tT)⟩ ?_
          · rw [List.length_append] at hxl; omega
          · intro n m τ' j
            obtain ⟨vs, j⟩ := j
            refine and10 j fun j0 hvl e1 e2 e3 j5 i34 i32 hT₂ o₂ => ?_
            clear j
            subst j0
            obtain ⟨x, e4⟩ := j5
            refine TT_plain <| T_name e3 <| OT_list i34 (by omega) ⟨fun hc => ?_, fun hc => ?_⟩
            · obtain ⟨us', z', rfl⟩ : ∃ us z, vs = us ++ [z] := ⟨_, _, (List.dropLast_concat_getLast (by rintro rfl; cases hc)).symm⟩
              rw [List.length_append] at hvl
              refine S_cons <| X_assign <| T_def (a := 180) ok (by kernel_rfl) (by kernel_rfl) <| Ts_cons <| T_num_ 2 ok <| Ts_cons <| T_tuple <| Ts_cons <| T_methB PySem.F.plainAttrs_list PySem.F.slot_list_pop PySem.F.type_list_pop <| T_name e3 ⟨34, rfl, by rw [i34]; rfl, by decide, Ts_nil <| OC_pop i34 (by omega) <| Ts_cons <| T_name e4 <| Ts_nil ⟨[z', x], rfl, leT tT, Ts_nil <| OC_e1 (c_struct ok 2 [z', x]) (lowOk (by exact tT)) .never fun σ₃ ll ho₃ => ?_⟩⟩
              exact S_nil ⟨us'.length, by simp, us', rfl, by omega, (lkp_ne rfl).trans e1, (lkp_ne rfl).trans e2, (lkp_ne rfl).trans e3, ⟨_, lkp_same rfl⟩, rfl, i32, (hT₂.off (L := []) (((Off.refl).upd (by exact tT)).mix ho₃) (by exact tT) (by exact tT) (by exact tT) (by exact tT)), (o₂.upd (by exact tT)).mix ho₃⟩
            · obtain rfl : vs = [] := by cases vs <;> first | rfl | cases hc
              refine S_freeze 34 i34 ?_ (by decide) (by decide) fz
              refine S_cons <| X_sub <| T_name (lk_thaw e4) <| T_cell (a := a) (l := .loc 32) (.head _) <| T_name (lk_thaw e2) <| OU_L (xs := gs) i32 h0 (by omega) (by omega) ?_
              exact S_nil <| S_nil <| S_nil <| S_nil <| ⟨lk_thaw e1, ⟨_, rfl, by simpa using hgs⟩, rfl, hT₂, (o₂.upd (by exact tT)).upd (by exact tT)⟩
      · decide +kernel
      · decide +kernel
      · decide +kernel
    · intro m τ j
      refine and5 j fun e1 j1 h34 hT₁ o => ?_
      clear j
      obtain ⟨gs, h32, hgs⟩ := j1
      obtain ⟨x, hx⟩ : ∃ x, gs[(0 : Int).toNat]? = some x := get_some (by decide) (by omega)
      exact S_cons <| X_retK kR <| T_sub <| T_cell (a := a) (l := .loc 32) (.head _) <| T_cint <| O_itemN h32 (by decide) hx ⟨datLow _, ⟨x, rfl⟩, o⟩
end
section
variable {cx : Cx} {fx : Fx} {E : Value → Shared → Prop} {d : Nat} {m : Locals} {σ : Store}
theorem rangeSize_up (n : Nat) : Builtin.Range.rangeSize 0 (n : Int) 1 = (n : Nat) := by
  rw [rangeSize_one]; split <;> lia
theorem small_up {n : Nat} (hn : n ≤ 1000000) : Builtin.Range.small 0 (n : Int) 1 = true := small_one (by decide) (by decide) (by lia) (by lia)
theorem TI_up {np pos : Pos} {e₀ : Expr} {es : List Expr} {Q : List PyData → Store → Prop} (ok : CxOk cx) (hd : 0 < d) (h : TEs cx fx E d pos (e₀ :: es) m σ (fun ls σ₁ => ∃ n : Nat, ls = [.dat (.int (n : Int))] ∧ n ≤ 1000000 ∧ Q ((rangeL 0 1 n).map .int) σ₁))
    (hes : ∃ b t r, backTo pos (starEach (e₀ :: es) fx.env) = (b, t) :: r := by exact ⟨_, _, _, rfl⟩) (hp : Plain fx pos (e₀ :: es) := by rfl) (hk : fx.cs.kind = .function := by rfl) (hx : fx.env.kindOf "range" = some .globalImplicit := by rfl) : TI cx fx E d (.Call (.Name "range" np) (e₀ :: es) [] pos) m σ Q :=
  TI_of hd fun A ρ s ok' R => T_evalB ok (g_range _) b_range (by decide +kernel) ok' R (fun A ρ s ok'' R' => wpAny_mono (h A ρ s ok'' R') (fun vs s₁ ⟨ls, σ₁, ρ₁, X₁, R₁, r₁, n, e, hn, q⟩ => ⟨ls, σ₁, ρ₁, X₁, R₁, r₁, fun ρ₂ s₂ vs X₂ R₂ r₂ => by
    subst e
    cases r₂ with
    | cons a r₂ =>
    cases r₂
    obtain ⟨t, rfl⟩ := of_int a
    refine call_range_1 ?_
    obtain ⟨R₃, X₃⟩ := R₂.push { cls := .type "range", data := .fields #[.int 0 s₂.toks, .int n t, .int 1 (s₂.toks + 1)] } (s₂.toks + 1 + 1)
    exact ⟨σ₁, ρ₂, _, _, _, _, _, _, _, n, rfl, X₂.trans X₃, R₃, IsRange.new .., small_up hn, rangeSize_up n, q⟩⟩) fun _ _ x => x) hes hp hk hx (by decide +kernel)
end
theorem rangeL_up_get {n i : Nat} {y : Int} (h : (rangeL 0 1 n)[i]? = some y) : y = (i : Int) ∧ i < n := by
  have hl := (List.getElem?_eq_some_iff.mp h).1
  rw [rangeL_len] at hl
  rw [rangeL_get 1 n 0 i hl] at h
  have := Option.some.inj h
  lia
/-! faults of a body -/
noncomputable def isBar (S : Sy) (f : Int) : Bool := decide (0 ≤ f) && (S.funs[f.toNat]? == some [8, 2])
noncomputable def ctl2 (S : Sy) (f : Int) : Bool := f == 1 || f == 2 || f == 3 || isBar S f
noncomputable def partFault (S : Sy) : Tm → Option Flt
  | .int k => some (.callable (.int k))
  | .s1 f x => if f = 4 then partFault S x else none
  | .s2 f x y => if f = 0 then listFault (.s2 f x y) else if ctl2 S f = true then (partFault S x).or (partFault S y) else none
  | _ => none
noncomputable def stackF (S : Sy) : List Tm → Option Flt
  | [] => none
  | t :: r => (partFault S t).or (stackF S r)
noncomputable def total : List Tm → Nat
  | [] => 0
  | t :: r => t.size + total r
theorem stackF_app (S : Sy) : ∀ (a b : List Tm), stackF S (a ++ b) = (stackF S a).or (stackF S b)
  | [], b => by simp [stackF]
  | t :: r, b => by
    show (partFault S t).or (stackF S (r ++ b)) = _
    rw [stackF_app S r b]
    show _ = ((partFault S t).or (stackF S r)).or _
    rw [Option.or_assoc]
theorem total_app : ∀ (a b : List Tm), total (a ++ b) = total a + total b
  | [], b => by simp [total]
  | t :: r, b => by
    show t.size + total (r ++ b) = t.size + total r + total b
    rw [total_app r b]; lia
theorem isBar_mono {c : Nat} {S S' : Sy} (h : Le c S S') {f n : Int} (k : Arity S f n) : isBar S' f = isBar S f := by
  obtain ⟨h0, a, e⟩ := k
  obtain ⟨t, ht⟩ := h.funs
  unfold isBar
  rw [ht, List.getElem?_append_left (List.getElem?_eq_some_iff.mp e).1]
theorem partFault_mono {c : Nat} {S S' : Sy} (h : Le c S S') : ∀ {t : Tm}, Ok S t → partFault S' t = partFault S t
  | .int _, _ => rfl
  | .atom _, _ => rfl
  | .var _, _ => rfl
  | .s1 f x, k => by
    unfold partFault
    rw [partFault_mono h k.2]
  | .s2 f x y, k => by
    unfold partFault ctl2
    rw [partFault_mono h k.2.2.1, partFault_mono h k.2.2.2, isBar_mono h k.1]
theorem stackF_mono {c : Nat} {S S' : Sy} (h : Le c S S') : ∀ {ts : List Tm}, (∀ t ∈ ts, Ok S t) → stackF S' ts = stackF S ts
  | [], _ => rfl
  | t :: r, k => by
    unfold stackF
    rw [partFault_mono h (k t (.head _)), stackF_mono h fun u hu => k u (.tail _ hu)]
theorem spine_ok {S : Sy} (fs : List Int) : ∀ {t : Tm}, Ok S t → ∀ u ∈ t.spine fs, Ok S u
  | .s2 f x y, k, u, h => by
    unfold Tm.spine at h
    by_cases hc : (fs.any (· == f)) = true
    · rw [if_pos hc] at h
      rcases List.mem_cons.mp h with rfl | h
      · exact k.2.2.1
      · exact spine_ok fs k.2.2.2 u h
    · rw [if_neg hc] at h
      rw [List.mem_singleton.mp h]; exact k
  | .s1 f x, k, u, h => by rw [List.mem_singleton.mp h]; exact k
  | .int _, k, u, h => by rw [List.mem_singleton.mp h]; exact k
  | .atom _, k, u, h => by rw [List.mem_singleton.mp h]; exact k
  | .var _, k, u, h => by rw [List.mem_singleton.mp h]; exact k
theorem spine_total (fs : List Int) : ∀ (t : Tm), total (t.spine fs) ≤ t.size
  | .s2 f x y => by
    have := spine_total fs y
    unfold Tm.spine
    split
    · simp only [total, Tm.size]; lia
    · simp [total]
  | .s1 f x => by simp [Tm.spine, total]
  | .int _ => by simp [Tm.spine, total]
  | .atom _ => by simp [Tm.spine, total]
  | .var _ => by simp [Tm.spine, total]
theorem spine_fault {S : Sy} (fs : List Int) (hf : ∀ f ∈ fs, f ≠ 0 ∧ ctl2 S f = true) : ∀ (t : Tm), stackF S (t.spine fs) = partFault S t
  | .s2 f x y => by
    have ih := spine_fault fs hf y
    unfold Tm.spine
    by_cases hc : (fs.any (· == f)) = true
    · rw [if_pos hc]
      obtain ⟨g, hg, e⟩ := List.any_eq_true.mp hc
      obtain rfl : g = f := by simpa using e
      obtain ⟨h0, h1⟩ := hf g hg
      show (partFault S x).or (stackF S (y.spine fs)) = _
      rw [ih, show partFault S (.s2 g x y) = if g = 0 then listFault (.s2 g x y) else if ctl2 S g = true then (partFault S x).or (partFault S y) else none from rfl, if_neg h0, if_pos h1]
    · rw [if_neg hc]; exact Option.or_none
  | .s1 f x => Option.or_none
  | .int _ => Option.or_none
  | .atom _ => Option.or_none
  | .var _ => Option.or_none
/-! rows -/
structure Row where
  place : Nat
  t : Tm
  a : PyData
  b : PyData
noncomputable def Row.enc (r : Row) : PyData := .tuple [.int (r.place : Int), r.t.enc, r.a, r.b]
noncomputable def RowOk (S : Sy) (n : Nat) (r : Row) : Prop := r.place < n ∧ Ok S r.t ∧ r.b ≠ .none
structure Part where
  t : Tm
  a : PyData
  b : PyData
noncomputable def Part.p3 (p : Part) : P3 := (p.t.enc, p.a, p.b)
noncomputable def rowsOf (n : Nat) (ps : List Part) : List Row := ps.mapIdx fun i p => ⟨n + i, p.t, p.a, p.b⟩
theorem rowsOf_enc (n : Nat) (ps : List Part) : (rowsOf n ps).map Row.enc = rowsFrom n (ps.map Part.p3) := by
  unfold rowsOf rowsFrom
  apply List.ext_getElem?
  intro i
  simp only [List.getElem?_map, List.getElem?_mapIdx, Option.map_map]
  rfl
theorem rowsOf_t (n : Nat) (ps : List Part) : (rowsOf n ps).map (·.t) = ps.map (·.t) := by
  unfold rowsOf
  apply List.ext_getElem?
  intro i
  simp only [List.getElem?_map, List.getElem?_mapIdx, Option.map_map]
  rfl
theorem rowsOf_ok {S : Sy} {n M : Nat} {ps : List Part} (hM : n + ps.length ≤ M) (h : ∀ p ∈ ps, Ok S p.t ∧ p.b ≠ .none) : ∀ r ∈ rowsOf n ps, RowOk S M r := by
  intro r hr
  unfold rowsOf at hr
  obtain ⟨i, hi, rfl⟩ := List.mem_mapIdx.mp hr
  have := h _ (List.getElem_mem hi)
  exact ⟨by show n + i < M; lia, this.1, this.2⟩
structure GS (σ : Store) (S : Sy) (ks : List Int) (N W : List PyData) : Prop where
  sym : SymAt σ S
  fr : ∃ j, FrAt σ j
  gv : GvAt σ ks
  tr : TreeAt σ N W
  x15 : σ 15 = .free
  x16 : σ 16 = .free
section
variable {σ τ : Store} {S S' : Sy} {ks : List Int} {N W N' W' : List PyData}
theorem GS.off0 (h : GS σ S ks N W) (o : Off [] σ τ) : GS τ S ks N W :=
  ⟨h.sym.off o (by exact tT), let ⟨j, f⟩ := h.fr; ⟨j, f.off o (by exact tT) (by exact tT)⟩, h.gv.off o (by exact tT) (by exact tT), h.tr.off o (by exact tT) (by exact tT) (by exact tT) (by exact tT), (o.at1 15 (by exact tT)).trans h.x15, (o.at1 16 (by exact tT)).trans h.x16⟩
theorem GS.var (h : GS σ S ks N W) (o : Off [8] σ τ) (f : ∃ j, FrAt τ j) : GS τ S ks N W :=
  ⟨h.sym.off o (by exact tT), f, h.gv.off o (by exact tT) (by exact tT), h.tr.off o (by exact tT) (by exact tT) (by exact tT) (by exact tT), (o.at1 15 (by exact tT)).trans h.x15, (o.at1 16 (by exact tT)).trans h.x16⟩
theorem GS.symb (h : GS σ S ks N W) (o : Off [3, 4, 5, 6] σ τ) (s : SymAt τ S') : GS τ S' ks N W :=
  ⟨s, let ⟨j, f⟩ := h.fr; ⟨j, f.off o (by exact tT) (by exact tT)⟩, h.gv.off o (by exact tT) (by exact tT), h.tr.off o (by exact tT) (by exact tT) (by exact tT) (by exact tT), (o.at1 15 (by exact tT)).trans h.x15, (o.at1 16 (by exact tT)).trans h.x16⟩
theorem GS.tree (h : GS σ S ks N W) (o : Off [13, 14] σ τ) (t : TreeAt τ N' W') : GS τ S ks N' W' :=
  ⟨h.sym.off o (by exact tT), let ⟨j, f⟩ := h.fr; ⟨j, f.off o (by exact tT) (by exact tT)⟩, h.gv.off o (by exact tT) (by exact tT), t, (o.at1 15 (by exact tT)).trans h.x15, (o.at1 16 (by exact tT)).trans h.x16⟩
end
noncomputable def PartPost (S : Sy) (ks : List Int) (t : Tm) (N W : List PyData) (σ : Store) : LV → Store → Prop := fun l σ' => ∃ (rows : List Row) (y : PyData) (Nx : List PyData) (S' : Sy), l = .dat y ∧ Le 4 S S' ∧ GS σ' S' ks (N ++ Nx) (W ++ (rows.map Row.enc).reverse) ∧ WfNode (N.length + Nx.length) y ∧ (∀ z ∈ Nx, WfNode (N.length + Nx.length) z) ∧ Nx.length ≤ t.size + 2 ∧
  (∀ r ∈ rows, RowOk S' (N.length + Nx.length) r) ∧ total (rows.map (·.t)) < t.size ∧ stackF S' (rows.map (·.t)) = partFault S t ∧ Off [3, 4, 5, 6, 8, 13, 14] σ σ'
theorem wfGoal (n : Nat) (x : PyData) : WfNode n (goalOf x) := ⟨"goal", x, rfl, .inl rfl⟩
theorem placesInts (n k : Nat) : placesFrom n k = ((List.range k).map fun i => ((n + i : Nat) : Int)).map .int := by simp [placesFrom]
theorem wfPlaces {w : Str} {n k M : Nat} (h : n + k ≤ M) (h0 : 0 < k) (h1 : k ≤ 1000) (ht : sb w "then" = true → 2 ≤ k) : WfNode M (.tuple [.str w, .list (placesFrom n k)]) := by
  refine ⟨w, _, rfl, .inr ⟨_, by rw [placesInts], fun i hi => ?_, ?_, by simpa using h1, by simpa using ht⟩⟩
  · obtain ⟨j, hj, rfl⟩ := List.mem_map.mp hi
    have := List.mem_range.mp hj
    omega
  · intro q
    have := congrArg List.length q
    simp at this; omega
/-- what hold gives -/
theorem holdPost {S S₁ : Sy} {ks : List Int} {t : Tm} {N W : List PyData} {σ τ : Store} {w : Str} {ps : List Part} (hle : Le 4 S S₁) (hG : GS τ S₁ ks (N ++ (ps.map Part.p3).map fun p => goalOf p.1) (W ++ (rowsFrom N.length (ps.map Part.p3)).reverse))
    (h0 : 0 < ps.length) (h1 : ps.length ≤ t.size) (hz : t.size ≤ 1000) (hw : sb w "then" = true → 2 ≤ ps.length) (hp : ∀ p ∈ ps, Ok S₁ p.t ∧ p.b ≠ .none) (ht : total (ps.map (·.t)) < t.size) (hf : stackF S₁ (ps.map (·.t)) = partFault S t) (o : Off [3, 4, 5, 6, 8, 13, 14] σ τ) :
    PartPost S ks t N W σ (.dat (.tuple [.str w, .list (placesFrom N.length (ps.map Part.p3).length)])) τ := by
  have hl : ((ps.map Part.p3).map fun p => goalOf p.1).length = ps.length := by simp
  refine ⟨rowsOf N.length ps, _, (ps.map Part.p3).map fun p => goalOf p.1, S₁, rfl, hle, ?_, ?_, ?_, ?_, ?_, ?_, ?_, o⟩
  · rw [rowsOf_enc]; exact hG
  · rw [hl, List.length_map]; exact wfPlaces (Nat.le_refl _) h0 (by omega) hw
  · intro z hz
    obtain ⟨p, _, rfl⟩ := List.mem_map.mp hz
    exact wfGoal _ _
  · rw [hl]; omega
  · rw [hl]; exact rowsOf_ok (Nat.le_refl _) hp
  · rw [rowsOf_t]; exact ht
  · rw [rowsOf_t]; exact hf
theorem spine_lt {fs : List Int} {f : Int} {x y : Tm} (h : fs.any (· == f) = true) : total ((Tm.s2 f x y).spine fs) < (Tm.s2 f x y).size ∧ 0 < ((Tm.s2 f x y).spine fs).length := by
  unfold Tm.spine
  rw [if_pos h]
  have := spine_total fs y
  refine ⟨?_, by simp⟩
  show x.size + total (y.spine fs) < x.size + y.size + 1
  omega
theorem total_len : ∀ ts : List Tm, ts.length ≤ total ts
  | [] => Nat.le_refl _
  | t :: r => by
    have := total_len r
    have := t.size_pos
    show r.length + 1 ≤ t.size + total r
    omega
theorem fmHold (w : World) : FM w 379 "hold" 371 := ⟨by kernel_rfl, by kernel_rfl, by kernel_rfl, by kernel_rfl⟩
theorem fmVar (w : World) : FM w 325 "variable" 322 := ⟨by kernel_rfl, by kernel_rfl, by kernel_rfl, by kernel_rfl⟩
theorem bar_iff {S : Sy} {f n : Int} (k : Arity S f n) (nod : (S.functor 8 2).1.funs.Nodup) : f = (S.functor 8 2).2 ↔ isBar S f = true := by
  obtain ⟨h0, a, e⟩ := k
  obtain ⟨b0, b1⟩ := S.functor_at 8 2
  obtain ⟨r, er⟩ := (S.functor_le 8 2).funs
  have e' : (S.functor 8 2).1.funs[f.toNat]? = S.funs[f.toNat]? := by rw [er, List.getElem?_append_left (List.getElem?_eq_some_iff.mp e).1]
  unfold isBar
  constructor
  · rintro rfl
    rw [← e', b1]
    simp [h0]
  · intro h
    obtain ⟨_, h2⟩ := Bool.and_eq_true_iff.mp h
    have h2' : S.funs[f.toNat]? = some [8, 2] := by simpa using h2
    rw [← e', ← b1] at h2'
    have l1 : f.toNat < (S.functor 8 2).1.funs.length := by rw [b1] at h2'; exact (List.getElem?_eq_some_iff.mp h2').1
    have := (List.getElem?_inj l1 nod).mp h2'
    omega
theorem plainFault_eq {S : Sy} (hB : Base S) {t : Tm} (ht : Ok S t) (h : sb t.tag "s" = false ∨ (ctl2 S t.num = false ∧ t.num ≠ 4)) : partFault S t = plainFault t := by
  cases t with
  | int k => rfl
  | atom k => rfl
  | var k => rfl
  | s1 f x =>
    rcases h with h | ⟨_, h⟩
    · exact absurd h (Ne.symm Bool.false_ne_true)
    · exact if_neg h
  | s2 f x y =>
    rcases h with h | ⟨h, _⟩
    · exact absurd h (Ne.symm Bool.false_ne_true)
    · show (if f = 0 then listFault (.s2 f x y) else if ctl2 S f = true then _ else none) = if f = 0 then listFault (.s2 f x y) else none
      have h' : ctl2 S f = false := h
      rw [h']; rfl
section
variable {cx : Cx} {σ : Store}
set_option maxHeartbeats 2000000 in
theorem c_part (ok : CxOk cx) {S : Sy} {ks : List Int} {N W : List PyData} (hG : GS σ S ks N W) (hB : Base S) (hz : S.size ≤ 60000) (hN : N.length ≤ 90700) (hW : W.length ≤ 1000) (t : Tm) (ht : Ok S t) (ht' : t.size ≤ 300) (a b : PyData) (hb : b ≠ .none) :
    TC cx 6 (.ref 395) [.loc 1, .dat t.enc, .dat a, .dat b, .loc 9, .loc 11] σ (PartPost S ks t N W σ) (fun z => ∃ F S', Le 4 S S' ∧ partFault S t = some F ∧ z = F.ball S') := by
  refine TC_fnC2 (d := 6) (ls := [.loc 1, .dat t.enc, .dat a, .dat b, .loc 9, .loc 11]) ok (show _ = some (o395_8 cx.w.params) by kernel_rfl) (by kernel_rfl) ["symbols", "term", "first", "last", "new", "tree"] ?_ ["first", "last"] ?_ ?_ (by decide) ?_
  · exact bndc fun _ => bndc fun _ => bndc fun _ => bndc fun _ => bndc fun _ => bndc fun _ => bndn rfl
  · decide +kernel
  · intro y hy
    rcases List.mem_cons.mp hy with rfl | hy
    · exact ⟨by decide +kernel, fun n => rfl⟩
    · rw [List.mem_singleton.mp hy]
      exact ⟨by decide +kernel, fun n => rfl⟩
  · intro fD fE fK cv eE kR hcv hval
    have hG' : GS (low σ) S ks N W := hG.off0 .low
    obtain ⟨a1, ea1, c1⟩ := hcv "first" (.head _)
    obtain ⟨a2, ea2, c2⟩ := hcv "last" (.tail _ (.head _))
    replace c1 : (("first" : Str), a1, some (LV.dat a)) ∈ cv := c1
    replace c2 : (("last" : Str), a2, some (LV.dat b)) ∈ cv := c2
    have fz : ∀ c ∈ cv, c.2.2 ≠ some (.loc 32) := fun c hc q => by
      obtain ⟨y, e⟩ := hval c hc
      rw [q] at e
      have z := (List.of_mem_zip (lk_mem e.symm)).2
      simp at z
    refine TG_of ?_
    have hle1 := S.functor_le 8 2
    have sz1 := hle1.size
    refine S_cons (TX.mono (Q := fun fl m' τ' => match fl with
      | .ret l => fK (.ret l) m' τ'
      | .next => ∃ S₁, Le 1 S S₁ ∧ GS τ' S₁ ks N W ∧ lk m' "symbols" = some (.loc 1) ∧ lk m' "term" = some (.dat t.enc) ∧ partFault S t = plainFault t ∧ Off [3, 4, 5, 6, 8, 13, 14] σ τ'
      | _ => False) ?_ ?_)
    rotate_left
    · rintro (_ | _ | _ | l) m' τ' hQ
      · obtain ⟨S₁, hQ⟩ := hQ
        refine and6 hQ fun hle hG₁ e1 e2 hpf o => ?_
        clear hQ
        have sz := hle.size
        refine S_cons <| X_retK kR <| T_tuple <| Ts_cons <| T_cstr <| Ts_cons <| T_def (a := 402) ok (by kernel_rfl) (by kernel_rfl) <| Ts_cons <| T_name e1 <| Ts_cons <| T_name e2 <| Ts_cons <| T_cell c1 <| Ts_cons <| T_cell c2 <| Ts_nil <| OC_of (c_plain_goal ok hG₁.sym (hB.mono hle) (by omega) hG₁.x15 hG₁.x16 t (ht.mono hle) (by omega) a b hb) (lowOk (by exact tT)) (.exE eE fun z ⟨F, e, ez⟩ => ⟨F, S₁, hle.up (by omega), hpf.trans e, ez⟩) fun l σ₃ ll ⟨hn, ⟨x, hl⟩, ⟨S', hS', hle'⟩, ho₃⟩ => ?_
        subst hl
        refine Ts_nil ⟨[.str "goal", x], rfl, leT tT, datLow _, [], goalOf x, [], S', rfl, (hle.trans hle').up (by omega), ?_, wfGoal _ _, (fun z hz => nomatch hz), by simp, (fun r hr => nomatch hr), t.size_pos, ?_, o.mix (ho₃.mono (by exact tT))⟩
        · rw [List.append_nil, List.map_nil, List.reverse_nil, List.append_nil]
          exact hG₁.symb (Off.refl.mix ho₃) hS'.mix
        · rw [hpf, hn]; rfl
      · exact hQ.elim
      · exact hQ.elim
      · exact hQ
    refine X_if (TT_tagIs (t := t) rfl ⟨fun hs => ?_, fun hs => S_nil ⟨S, (Le.refl S).up (by omega), hG', rfl, rfl, plainFault_eq hB ht (.inl hs), .low⟩⟩)
    refine S_cons <| X_assign <| T_symM (f := 102) ok rfl hG'.sym.s1 hG'.sym.s2 rfl (Ts_cons <| T_num_ 8 ok <| Ts_cons <| T_cint <| Ts_nil <| OC_e2 (c_functor ok hG'.sym (by omega) 8 2) (lowOk (by exact tT)) .never fun σ₁ ll hS₁ ho₁ => ?_) (by decide)
    have hG₁ : GS (mix σ₁ (low σ)) (S.functor 8 2).1 ks N W := hG'.symb (Off.refl.mix (ho₁.mono (by exact tT))) hS₁.mix
    have o₁ : Off [3, 4, 5, 6, 8, 13, 14] σ (mix σ₁ (low σ)) := Off.low.mix (ho₁.mono (by exact tT))
    have h32 : mix σ₁ (low σ) 32 = .free := rfl
    have hbar := S.functor_at 8 2
    generalize hS' : (S.functor 8 2).1 = S₁ at *
    generalize hbb : (S.functor 8 2).2 = bar at *
    generalize mix σ₁ (low σ) = τ at *
    have ht₁ := ht.mono hle1
    have hB₁ := hB.mono hle1
    have pf₁ := partFault_mono hle1 ht
    refine S_cons <| X_assign <| T_num <| T_name (l := .dat t.enc) rfl ⟨t, rfl, ?_⟩
    refine S_cons <| X_if <| TT_cmp <| T_name rfl <| T_num_ 1 ok <| O_eqi ⟨_, rfl, fun h1 => ?_, fun h1 => S_nil ?_⟩
    · have hn : t.num = 1 := by simpa using h1
      have hsp : total (t.spine [1]) < t.size ∧ 0 < (t.spine [1]).length := by
        cases t with
        | s2 f x y => exact spine_lt (by rw [show f = 1 from hn]; rfl)
        | s1 f x =>
          have hf : f = 1 := hn
          subst hf
          exact absurd (base_ar hB (f := 1) rfl ht.1) (by decide)
        | _ => exact absurd hs Bool.false_ne_true
      have hsf := spine_fault (S := S₁) [1] (by intro f hf; rw [List.mem_singleton.mp hf]; exact ⟨by decide, rfl⟩) t
      have hso := spine_ok [1] ht₁
      have hsl := total_len (t.spine [1])
      refine S_cons <| X_assign <| T_listN 32 <| Ts_nil ⟨[], rfl, leT tT, h32, ?_⟩
      refine S_cons <| X_assign <| T_cell c1 ?_
      refine S_cons <| X_assign <| T_def (a := 301) ok (by kernel_rfl) (by kernel_rfl) <| Ts_cons <| T_name (l := .dat t.enc) rfl <| Ts_cons <| T_tuple <| Ts_cons <| T_num_ 1 ok <| Ts_nil ⟨[.int 1], rfl, leT tT, Ts_nil <| OC_of (c_right_spine ok [1] ?_ t ht₁ (by omega)) (lowOk (by exact tT)) .never fun l σ₂ ll ⟨hl, ho₂⟩ => ?_⟩
      · intro f hf har
        rw [List.mem_singleton.mp hf] at har
        exact absurd (base_ar hB₁ (f := 1) rfl har) (by decide)
      subst hl
      generalize t.spine [1] = sp at *
      refine S_cons <| X_for (.exE eE) (by decide) <| TI_up ok (by decide) <| Ts_cons <| T_len ok <| T_name rfl ⟨sp.map Tm.enc, .inl rfl, by rw [List.length_map]; omega, Ts_nil ⟨sp.length, by rw [List.length_map], by omega, ?_⟩⟩
      refine forL_ind _ (fun i m τ' => ∃ ps : List Part, ps.length = i ∧ ps.map (·.t) = sp.take i ∧ (∀ p ∈ ps, p.b ≠ .none) ∧ lk m "tree" = some (.loc 11) ∧ lk m "new" = some (.loc 9) ∧ lk m "parts" = some (.loc 32) ∧ lk m "spine" = some (.dat (.list (sp.map Tm.enc))) ∧ (∃ x, lk m "here" = some (.dat x)) ∧ τ' 32 = .list ((ps.map Part.p3).map P3.enc) ∧ GS τ' S₁ ks N W ∧ Off [3, 4, 5, 6, 8, 13, 14] σ τ') ?_ ?_ ⟨[], rfl, rfl, (fun p hp => nomatch hp), rfl, rfl, rfl, rfl, ⟨a, rfl⟩, rfl, ?_, ?_⟩
      · intro i y m τ' hy j
        obtain ⟨ps, j⟩ := j
        refine and11 j fun hpl hpt hpb e1 e2 e3 e4 j7 i32 hG₂ o₂ => ?_
        clear j
        obtain ⟨x, e5⟩ := j7
        rw [List.getElem?_map] at hy
        obtain ⟨k, hk, rfl⟩ := Option.map_eq_some_iff.mp hy
        obtain ⟨rfl, hi⟩ := rangeL_up_get hk
        refine S_cons <| X_assign <| T_cell c2 ?_
        have f0 : lk (putl (putl m "at" (.dat (.int (i : Int)))) "there" (.dat b)) "at" = some (.dat (.int (i : Int))) := (lkp_ne rfl).trans (lkp_same rfl)
        have f1 := (lkp_ne (x := "there") (v := LV.dat b) rfl).trans ((lkp_ne (x := "at") (v := LV.dat (.int (i : Int))) rfl).trans e1)
        have f2 := (lkp_ne (x := "there") (v := LV.dat b) rfl).trans ((lkp_ne (x := "at") (v := LV.dat (.int (i : Int))) rfl).trans e2)
        have f3 := (lkp_ne (x := "there") (v := LV.dat b) rfl).trans ((lkp_ne (x := "at") (v := LV.dat (.int (i : Int))) rfl).trans e3)
        have f4 := (lkp_ne (x := "there") (v := LV.dat b) rfl).trans ((lkp_ne (x := "at") (v := LV.dat (.int (i : Int))) rfl).trans e4)
        have f5 := (lkp_ne (x := "there") (v := LV.dat b) rfl).trans ((lkp_ne (x := "at") (v := LV.dat (.int (i : Int))) rfl).trans e5)
        have f6 : lk (putl (putl m "at" (.dat (.int (i : Int)))) "there" (.dat b)) "there" = some (.dat b) := lkp_same rfl
        show TS _ _ _ _ _ (putl (putl m "at" (.dat (.int (i : Int)))) "there" (.dat b)) _ _
        generalize putl (putl m "at" (.dat (.int (i : Int)))) "there" (.dat b) = m at f0 f1 f2 f3 f4 f5 f6
        refine S_cons (TX.mono (Q := fun fl m' τ'' => fl = .next ∧ (∃ z, lk m' "there" = some (.dat z) ∧ z ≠ .none) ∧ lk m' "at" = some (.dat (.int (i : Int))) ∧ lk m' "tree" = some (.loc 11) ∧ lk m' "new" = some (.loc 9) ∧ lk m' "parts" = some (.loc 32) ∧ lk m' "spine" = some (.dat (.list (sp.map Tm.enc))) ∧ lk m' "here" = some (.dat x) ∧ τ'' 32 = .list ((ps.map Part.p3).map P3.enc) ∧ GS τ'' S₁ ks N W ∧ Off [3, 4, 5, 6, 8, 13, 14] σ τ'') ?_ ?_)
        · refine X_if <| TT_cmp <| T_bin <| T_name f0 <| T_cint <| O_add <| T_len ok <| T_name f4 ⟨sp.map Tm.enc, .inl rfl, by rw [List.length_map]; omega, O_lt ⟨_, rfl, fun h => ?_, fun h => S_nil ⟨rfl, ⟨b, f6, hb⟩, f0, f1, f2, f3, f4, f5, i32, hG₂, o₂⟩⟩⟩
          obtain ⟨j, hj⟩ := hG₂.fr
          refine S_cons <| X_assign <| T_meth ok (T_name f2 ⟨9, 325, 10, _, 322, rfl, hG₂.gv.1, hG₂.gv.2, rfl, fmVar _, by decide, Ts_nil (OC_x2 (c_variable ok hj hG₂.gv) (lowOk (by exact tT)) .never fun q σ₃ ll j' hj' ho₃ => ?_)⟩)
          exact S_nil ⟨rfl, ⟨_, lkp_same rfl, by simp [Tm.enc]⟩, (lkp_ne rfl).trans f0, (lkp_ne rfl).trans f1, (lkp_ne rfl).trans f2, (lkp_ne rfl).trans f3, (lkp_ne rfl).trans f4, (lkp_ne rfl).trans f5, i32, hG₂.var (Off.refl.mix ho₃) ⟨j', hj'.mix⟩, o₂.mix (ho₃.mono (by exact tT))⟩
        · intro fl m' τ'' j
          refine and11 j fun j0 j1 g0 g1 g2 g3 g4 g5 i32 hG₃ o₃ => ?_
          clear j
          subst j0
          obtain ⟨z, g6, hz'⟩ := j1
          obtain ⟨u, hu⟩ : ∃ u, sp[i]? = some u := ⟨_, List.getElem?_eq_getElem hi⟩
          refine S_cons <| X_expr <| T_methB PySem.F.plainAttrs_list PySem.F.slot_list_append PySem.F.type_list_append <| T_name g3 ⟨32, rfl, by rw [i32]; rfl, by decide, Ts_cons <| T_tuple <| Ts_cons <| T_sub <| T_name g4 <| T_name g0 <| O_itemL (x := u.enc) (by omega) (by rw [Int.toNat_natCast, List.getElem?_map, hu]; rfl) (Ts_cons <| T_name g5 <| Ts_cons <| T_name g6 <| Ts_nil ⟨[u.enc, x, z], rfl, leT tT, Ts_nil <| OC_append i32 (by rw [List.length_map, List.length_map]; omega) ⟨rfl, ?_⟩⟩) (by omega)⟩
          refine S_cons <| X_assign <| T_name g6 <| S_nil ⟨rfl, ps ++ [⟨u, x, z⟩], by simp [hpl], ?_, ?_, (lkp_ne rfl).trans g1, (lkp_ne rfl).trans g2, (lkp_ne rfl).trans g3, (lkp_ne rfl).trans g4, ⟨z, lkp_same rfl⟩, ?_, hG₃.off0 (Off.refl.upd (by exact tT)), o₃.upd (by exact tT)⟩
          · rw [List.map_append, hpt, List.take_add_one, hu]; rfl
          · intro p hp
            rcases List.mem_append.mp hp with hp | hp
            · exact hpb p hp
            · rw [List.mem_singleton.mp hp]; exact hz'
          · show AO.list _ = AO.list _
            rw [List.map_append, List.map_append]; rfl
      · intro m τ' j
        obtain ⟨ps, j⟩ := j
        refine and11 j fun hpl hpt hpb e1 e2 e3 e4 j7 i32 hG₂ o₂ => ?_
        clear j
        obtain ⟨x, e5⟩ := j7
        rw [List.length_map, rangeL_len] at hpl hpt
        rw [List.take_length] at hpt
        have hG₃ : GS (upd τ' 32 .free) S₁ ks N W := hG₂.off0 (Off.refl.upd (by exact tT))
        refine S_freeze 32 i32 ?_ (by decide) (by decide) fz
        refine S_cons <| X_retK kR <| T_meth ok (T_name (lk_thaw e1) ⟨11, 379, 12, _, 371, rfl, hG₃.tr.1, hG₃.tr.2.1, rfl, fmHold _, by decide, Ts_cons <| T_cstr <| Ts_cons <| T_name (l := .dat (.list ((ps.map Part.p3).map P3.enc))) (lk_thaw e3) <| Ts_nil <| OC_of (c_hold ok "and" (ps.map Part.p3) (by rw [List.length_map]; omega) hG₃.tr (by omega) (by omega)) (lowOk (by exact tT)) .never fun l σ₄ ll ⟨hl, hT₄, ho₄⟩ => ⟨ll, ?_⟩⟩)
        subst hl
        refine holdPost (hle1.up (by omega)) (hG₃.tree (Off.refl.mix ho₄) hT₄.mix) (by omega) (by omega) (by omega) (by intro q; exact absurd q Bool.false_ne_true) (fun p hp => ⟨hso _ (hpt ▸ List.mem_map_of_mem hp), hpb p hp⟩) (by rw [hpt]; exact hsp.1) (by rw [hpt, hsf, pf₁]) ((o₂.upd (by exact tT)).mix (ho₄.mono (by exact tT)))
      · exact (hG₁.off0 (Off.refl.upd (by exact tT))).off0 (Off.refl.mix ho₂)
      · exact (o₁.upd (by exact tT)).mix (ho₂.mono (by exact tT))
    refine S_cons <| X_if <| TT.mono (Q := fun c τ' => τ' = τ ∧ c = (t.num == 2 || t.num == bar)) (TT_or <| TT_cmp <| T_name rfl <| T_num_ 2 ok <| O_eqi ⟨_, rfl, fun h => TT_or <| TT_cmp <| T_name rfl <| T_name rfl <| O_eqi ⟨_, rfl, fun h' => TT_or0 ⟨rfl, ?_⟩, fun h' => ⟨rfl, ?_⟩⟩, fun h => ⟨rfl, ?_⟩⟩) ?_
    · rw [h, h']; rfl
    · rw [h, h']; rfl
    · rw [h]; rfl
    rintro c τ' ⟨rfl, rfl⟩
    have hnum : t.num = bar ↔ (isBar S t.num = true) := by
      obtain ⟨n, hn⟩ : ∃ n, Arity S t.num n := by
        cases t with
        | s1 f x => exact ⟨1, ht.1⟩
        | s2 f x y => exact ⟨2, ht.1⟩
        | _ => exact absurd hs Bool.false_ne_true
      have := bar_iff hn (hS' ▸ hG₁.sym.nod)
      rw [hbb] at this
      exact this
    refine ⟨fun ht2 => ?_, fun hf2 => S_nil ?_⟩
    · have hbar0 : bar ≠ 0 := by
        rintro rfl
        obtain ⟨r, er⟩ := hB₁
        rw [er] at hbar
        exact absurd hbar.2 (by simp [funs0])
      have h2 : [2, bar].any (· == t.num) = true := by
        rcases Bool.or_eq_true_iff.mp ht2 with h | h
        · have : t.num = 2 := by simpa using h
          rw [this]; rfl
        · have : t.num = bar := by simpa using h
          rw [this]; simp
      have hbar2 : isBar S₁ bar = true := by simp [isBar, hbar]
      have hsp : total (t.spine [2, bar]) < t.size ∧ 0 < (t.spine [2, bar]).length := by
        cases t with
        | s2 f x y => exact spine_lt h2
        | s1 f x =>
          exfalso
          rcases Bool.or_eq_true_iff.mp ht2 with h | h
          · have hf : f = 2 := by simpa [Tm.num] using h
            subst hf
            exact absurd (base_ar hB (f := 2) rfl ht.1) (by decide)
          · have hf : f = bar := by simpa [Tm.num] using h
            have hb' := hnum.mp hf
            obtain ⟨_, c, ec⟩ := ht.1
            unfold isBar at hb'
            rw [show (Tm.s1 f x).num = f from rfl, ec] at hb'
            simp at hb'
        | _ => exact absurd hs Bool.false_ne_true
      have hsf := spine_fault (S := S₁) [2, bar] (by
        intro f hf
        rcases List.mem_cons.mp hf with rfl | hf
        · exact ⟨by decide, rfl⟩
        · rw [List.mem_singleton.mp hf]; exact ⟨hbar0, by unfold ctl2; rw [hbar2, Bool.or_true]⟩) t
      have hso := spine_ok [2, bar] ht₁
      have hsl := total_len (t.spine [2, bar])
      refine S_cons <| X_retK kR <| T_meth ok (T_name rfl ⟨11, 379, 12, _, 371, rfl, hG₁.tr.1, hG₁.tr.2.1, rfl, fmHold _, by decide, Ts_cons <| T_cstr <| Ts_cons <| T_fz 32 h32 <| T_comp 32 [("last", a2), ("first", a1)] (fun y => .tuple [y, a, b]) ?_ (TI_list (by decide) <| T_def (a := 301) ok (by kernel_rfl) (by kernel_rfl) <| Ts_cons <| T_name (l := .dat t.enc) rfl <| Ts_cons <| T_tuple <| Ts_cons <| T_num_ 2 ok <| Ts_cons <| T_name rfl <| Ts_nil ⟨[.int 2, .int bar], rfl, leT tT, Ts_nil <| OC_of (c_right_spine ok [2, bar] ?_ t ht₁ (by omega)) (lowOk (by exact tT)) .never fun l σ₂ ll ⟨hl, ho₂⟩ => ⟨_, hl, ?_, ?_, ?_, _, rfl, upd_self .., ?_⟩⟩) ?_ ?_ ?_⟩)
      · have z1 : (cellsFrom (fD.L + 1) (fS (T 49)).names []).lookup ("first" : Str) = some (fD.L + 1) := rfl
        have z2 : (cellsFrom (fD.L + 1) (fS (T 49)).names []).lookup ("last" : Str) = some (fD.L + 1 + 1) := rfl
        obtain rfl : a1 = fD.L + 1 := Option.some.inj (ea1.symm.trans z1)
        obtain rfl : a2 = fD.L + 1 + 1 := Option.some.inj (ea2.symm.trans z2)
        with_unfolding_all rfl
      · intro f hf har
        rcases List.mem_cons.mp hf with rfl | hf
        · exact absurd (base_ar hB₁ (f := 2) rfl har) (by decide)
        · rw [List.mem_singleton.mp hf] at har
          obtain ⟨_, c, ec⟩ := har
          rw [hbar.2] at ec
          simp at ec
      · exact h32
      · rw [List.length_map]; omega
      · intro y hy acc A' ρ s C mC v E' ok' R ns hv r
        refine Tuple_ (spliced_cons (elt_loc ns hv (spliced_cons (elt_cell R c1 (fun v1 r1 => spliced_cons (elt_cell R c2 (fun v2 r2 => spliced_nil (wpAny_newObj_type ?_))))))))
        have D := dats_reps (ls := [.dat y, .dat a, .dat b]) (.cons r (.cons r1 (.cons r2 .nil))) rfl
        obtain ⟨R', X⟩ := R.push { cls := .type "tuple", data := .seq [v, v1, v2].toArray } s.toks
        obtain ⟨as, q, f⟩ := D.carry (X.carry0 R.toRelC)
        exact ⟨⟨_, s.toks, rfl, fun b o e => Heap.get?_push_of_some _ e⟩, as, .tuple (Heap.get?_push_size _ rfl) rfl rfl q, f⟩
      · generalize hps : (t.spine [2, bar]).map (fun u => (⟨u, a, b⟩ : Part)) = ps
        have hpt : ps.map (·.t) = t.spine [2, bar] := by rw [← hps, List.map_map]; exact List.map_id _
        have hpl : ps.length = (t.spine [2, bar]).length := by rw [← hpt, List.length_map]
        have hps' : ((t.spine [2, bar]).map Tm.enc).map (fun y => PyData.tuple [y, a, b]) = (ps.map Part.p3).map P3.enc := by
          rw [← hps, List.map_map, List.map_map, List.map_map]; rfl
        rw [hps']
        have hG₂ : GS (upd (upd (mix σ₂ τ') 32 (.list ((ps.map Part.p3).map P3.enc))) 32 .free) S₁ ks N W := ((hG₁.off0 (Off.refl.mix ho₂)).off0 (Off.refl.upd (by exact tT))).off0 (Off.refl.upd (by exact tT))
        refine Ts_nil <| OC_of (c_hold ok "or" (ps.map Part.p3) (by rw [List.length_map]; omega) hG₂.tr (by omega) (by omega)) (lowOk (by exact tT)) .never fun l σ₄ ll ⟨hl, hT₄, ho₄⟩ => ⟨ll, ?_⟩
        subst hl
        exact holdPost (hle1.up (by omega)) (hG₂.tree (Off.refl.mix ho₄) hT₄.mix) (by omega) (by omega) (by omega) (by intro q; exact absurd q Bool.false_ne_true) (fun p hp => by
          rw [← hps] at hp
          obtain ⟨u, hu, rfl⟩ := List.mem_map.mp hp
          exact ⟨hso u hu, hb⟩) (by rw [hpt]; exact hsp.1) (by rw [hpt, hsf, pf₁]) ((((o₁.mix (ho₂.mono (by exact tT))).upd (by exact tT)).upd (by exact tT)).mix (ho₄.mono (by exact tT)))
      · decide +kernel
      · decide +kernel
      · decide +kernel
    refine S_cons <| X_if <| TT_cmp <| T_name rfl <| T_num_ 3 ok <| O_eqi ⟨_, rfl, fun h3 => ?_, fun h3 => S_nil ?_⟩
    · -- then
      have hn : t.num = 3 := by simpa using h3
      obtain ⟨x, y, hxy⟩ : ∃ x y, t = .s2 3 x y := by
        cases t with
        | s2 f x y => exact ⟨x, y, by rw [show f = 3 from hn]⟩
        | s1 f x =>
          have hf : f = 3 := hn
          subst hf
          exact absurd (base_ar hB (f := 3) rfl ht.1) (by decide)
        | _ => exact absurd hs Bool.false_ne_true
      have hta : t.args = [x.enc, y.enc] := by rw [hxy]; rfl
      obtain ⟨j, hj⟩ := hG₁.fr
      refine S_cons <| X_assign <| T_meth ok (T_name rfl ⟨9, 325, 10, _, 322, rfl, hG₁.gv.1, hG₁.gv.2, rfl, fmVar _, by decide, Ts_nil (OC_x2 (c_variable ok hj hG₁.gv) (lowOk (by exact tT)) .never fun q σ₃ ll j' hj' ho₃ => ?_)⟩)
      have hG₂ := hG₁.var (Off.refl.mix ho₃) ⟨j', hj'.mix⟩
      refine S_cons <| X_retK kR <| T_meth ok (T_name rfl ⟨11, 379, 12, _, 371, rfl, hG₂.tr.1, hG₂.tr.2.1, rfl, fmHold _, by decide, Ts_cons <| T_cstr <| Ts_cons <| T_list <| Ts_cons <| T_tuple ?_⟩)
      refine Ts_cons <| T_item0 <| T_args <| T_name (l := .dat t.enc) rfl ⟨t, rfl, hs, x.enc, [y.enc], by rw [hta], Ts_cons <| T_cell c1 <| Ts_cons <| T_name rfl <| Ts_nil ⟨[x.enc, a, (Tm.var q).enc], rfl, leT tT, Ts_cons <| T_tuple ?_⟩⟩
      refine Ts_cons <| T_item1 <| T_args <| T_name (l := .dat t.enc) rfl ⟨t, rfl, hs, x.enc, y.enc, [], by rw [hta], Ts_cons <| T_name rfl <| Ts_cons <| T_cell c2 <| Ts_nil ⟨[y.enc, (Tm.var q).enc, b], rfl, leT tT, Ts_nil ⟨[.tuple [x.enc, a, (Tm.var q).enc], .tuple [y.enc, (Tm.var q).enc, b]], rfl, leT tT, Ts_nil ?_⟩⟩⟩
      refine OC_of (c_hold ok "then" (([⟨x, a, (Tm.var q).enc⟩, ⟨y, (Tm.var q).enc, b⟩] : List Part).map Part.p3) (by simp) hG₂.tr (by omega) (by omega)) (lowOk (by exact tT)) .never fun l σ₄ ll ⟨hl, hT₄, ho₄⟩ => ⟨ll, ?_⟩
      subst hl
      have hsz : t.size = x.size + y.size + 1 := by rw [hxy]; rfl
      have htx := hxy ▸ ht₁
      have p1 := x.size_pos
      have p2 := y.size_pos
      refine holdPost (hle1.up (by omega)) (hG₂.tree (Off.refl.mix ho₄) hT₄.mix) (by simp) (by simp; omega) (by omega) (fun _ => by simp) ?_ ?_ ?_ ((o₁.mix (ho₃.mono (by exact tT))).mix (ho₄.mono (by exact tT)))
      · intro p hp
        rcases List.mem_cons.mp hp with rfl | hp
        · exact ⟨htx.2.2.1, by simp [Tm.enc]⟩
        · rw [List.mem_singleton.mp hp]; exact ⟨htx.2.2.2, hb⟩
      · show x.size + (y.size + 0) < t.size
        omega
      · rw [← pf₁, hxy]
        show (partFault S₁ x).or ((partFault S₁ y).or none) = partFault S₁ (.s2 3 x y)
        rw [Option.or_none]; rfl
    refine S_cons <| X_if <| TT_cmp <| T_name rfl <| T_num_ 4 ok <| O_eqi ⟨_, rfl, fun h4 => ?_, fun h4 => S_nil <| S_nil ?_⟩
    rotate_left
    · refine ⟨S₁, hle1, hG₁, rfl, rfl, plainFault_eq hB ht (.inr ⟨?_, by simpa using h4⟩), o₁⟩
      have hf2' : (t.num == 2 || t.num == bar) = false := hf2
      have h3' : (t.num == 3) = false := h3
      have h1' : (t.num == 1) = false := h1
      obtain ⟨q2, q3⟩ := Bool.or_eq_false_iff.mp hf2'
      have q4 : isBar S t.num = false := by
        cases hq : isBar S t.num with
        | false => rfl
        | true =>
          have := hnum.mpr hq
          rw [this] at q3; simp at q3
      unfold ctl2
      rw [h1', q2, h3', q4]; rfl
    · -- not
      have hn : t.num = 4 := by simpa using h4
      obtain ⟨x, hxy⟩ : ∃ x, t = .s1 4 x := by
        cases t with
        | s1 f x => exact ⟨x, by rw [show f = 4 from hn]⟩
        | s2 f x y =>
          have hf : f = 4 := hn
          subst hf
          exact absurd (base_ar hB (f := 4) rfl ht.1) (by decide)
        | _ => exact absurd hs Bool.false_ne_true
      have hta : t.args = [x.enc] := by rw [hxy]; rfl
      obtain ⟨j, hj⟩ := hG₁.fr
      refine S_cons <| X_assign <| T_meth ok (T_name rfl ⟨9, 325, 10, _, 322, rfl, hG₁.gv.1, hG₁.gv.2, rfl, fmVar _, by decide, Ts_nil (OC_x2 (c_variable ok hj hG₁.gv) (lowOk (by exact tT)) .never fun q σ₃ ll j' hj' ho₃ => ?_)⟩)
      have hG₂ := hG₁.var (Off.refl.mix ho₃) ⟨j', hj'.mix⟩
      have o₂ : Off [3, 4, 5, 6, 8, 13, 14] σ (mix σ₃ τ') := o₁.mix (ho₃.mono (by exact tT))
      generalize mix σ₃ τ' = τ at *
      refine S_cons <| X_assign <| T_len ok <| T_tree ok rfl hG₂.tr (.inl ⟨rfl, rfl⟩) ⟨N, .inr (.inr ⟨13, rfl, by decide, hG₂.tr.2.2.1⟩), by omega, ?_⟩
      refine S_cons <| X_expr <| T_methB PySem.F.plainAttrs_list PySem.F.slot_list_append PySem.F.type_list_append <| T_tree ok rfl hG₂.tr (.inl ⟨rfl, rfl⟩) ⟨13, rfl, by rw [hG₂.tr.2.2.1]; rfl, by decide, Ts_cons <| T_tuple <| Ts_cons <| T_cstr <| Ts_cons <| T_name rfl <| Ts_nil ⟨[.str "goal", t.enc], rfl, leT tT, Ts_nil <| OC_append (n := 13) hG₂.tr.2.2.1 (by omega) ⟨rfl, ?_⟩⟩⟩
      have hT₃ : TreeAt (upd τ 13 (.list (N ++ [goalOf t.enc]))) (N ++ [goalOf t.enc]) W := ⟨hG₂.tr.1, hG₂.tr.2.1, rfl, hG₂.tr.2.2.2⟩
      have hG₃ := hG₂.tree (Off.refl.upd (by exact tT)) hT₃
      have o₃ := o₂.upd (n := 13) (o := .list (N ++ [goalOf t.enc])) (by exact tT)
      show TS _ _ _ _ _ _ (upd τ 13 (.list (N ++ [goalOf t.enc]))) _
      generalize upd τ 13 (.list (N ++ [goalOf t.enc])) = τ at *
      refine S_cons <| X_expr <| T_methB PySem.F.plainAttrs_list PySem.F.slot_list_append PySem.F.type_list_append <| T_tree ok rfl hT₃ (.inl ⟨rfl, rfl⟩) ⟨13, rfl, by rw [hT₃.2.2.1]; rfl, by decide, Ts_cons <| T_tuple <| Ts_cons <| T_cstr <| Ts_cons <| T_def (a := 180) ok (by kernel_rfl) (by kernel_rfl) <| Ts_cons <| T_num_ 10 ok <| Ts_cons <| T_tuple <| Ts_cons <| T_cell c1 <| Ts_cons <| T_cell c2 <| Ts_nil ⟨[a, b], rfl, leT tT, Ts_nil <| OC_e1 (c_struct ok 10 [a, b]) (lowOk (by exact tT)) .never fun σ₄ ll ho₄ => ?_⟩⟩
      have hT₄ := hG₃.off0 (Off.refl.mix ho₄)
      have o₄ := o₃.mix (ho₄.mono (by exact tT))
      generalize mix σ₄ τ = τ at *
      refine Ts_nil ⟨[.str "goal", .tuple [.str "s", .int 10, .tuple [a, b]]], rfl, leT tT, Ts_nil <| OC_append (n := 13) hT₄.tr.2.2.1 (by simp; omega) ⟨rfl, ?_⟩⟩
      have hT₅ : TreeAt (upd τ 13 (.list (N ++ [goalOf t.enc] ++ [goalOf (.tuple [.str "s", .int 10, .tuple [a, b]])]))) (N ++ [goalOf t.enc] ++ [goalOf (.tuple [.str "s", .int 10, .tuple [a, b]])]) W := ⟨hT₄.tr.1, hT₄.tr.2.1, rfl, hT₄.tr.2.2.2⟩
      have hG₅ := hT₄.tree (Off.refl.upd (by exact tT)) hT₅
      have o₅ := o₄.upd (n := 13) (o := .list (N ++ [goalOf t.enc] ++ [goalOf (.tuple [.str "s", .int 10, .tuple [a, b]])])) (by exact tT)
      show TS _ _ _ _ _ _ (upd τ 13 (.list (N ++ [goalOf t.enc] ++ [goalOf (.tuple [.str "s", .int 10, .tuple [a, b]])]))) _
      generalize upd τ 13 (.list (N ++ [goalOf t.enc] ++ [goalOf (.tuple [.str "s", .int 10, .tuple [a, b]])])) = τ at *
      have hl5 : (N ++ [goalOf t.enc] ++ [goalOf (.tuple [.str "s", .int 10, .tuple [a, b]])]).length = N.length + 2 := by simp
      refine S_cons <| X_sub <| T_meth ok (T_name rfl ⟨11, 379, 12, _, 371, rfl, hT₅.1, hT₅.2.1, rfl, fmHold _, by decide, Ts_cons <| T_cstr <| Ts_cons <| T_list <| Ts_cons <| T_tuple ?_⟩)
      refine Ts_cons <| T_item0 <| T_args <| T_name (l := .dat t.enc) rfl ⟨t, rfl, hs, x.enc, [], by rw [hta], Ts_cons <| T_cell c1 <| Ts_cons <| T_name rfl <| Ts_nil ⟨[x.enc, a, (Tm.var q).enc], rfl, leT tT, Ts_nil ⟨[.tuple [x.enc, a, (Tm.var q).enc]], rfl, leT tT, Ts_nil ?_⟩⟩⟩
      refine OC_e2 (c_hold ok "not" (([⟨x, a, (Tm.var q).enc⟩] : List Part).map Part.p3) (by simp) hT₅ (by rw [hl5]; omega) (by omega)) (lowOk (by exact tT)) .never fun σ₅ ll hT₆ ho₅ => ?_
      have hG₆ := hG₅.tree (Off.refl.mix ho₅) hT₆.mix
      have o₆ := o₅.mix (ho₅.mono (by exact tT))
      rw [hl5]
      rw [hl5] at hG₆
      have hnode : ∀ nd g1 g2 g3 : PyData, (N ++ [g1] ++ [g2] ++ [g3]).set N.length nd = N ++ [nd, g2, g3] := by
        intro nd g1 g2 g3
        rw [List.append_assoc, List.append_assoc, List.set_append_right _ _ (Nat.le_refl _), Nat.sub_self]; rfl
      refine T_tree ok rfl hG₆.tr (.inl ⟨rfl, rfl⟩) <| T_name rfl <| OU_L (n := 13) hG₆.tr.2.2.1 (by omega) (by simp) (by omega) ?_
      rw [Int.toNat_natCast]
      rw [show ((([⟨x, a, (Tm.var q).enc⟩] : List Part).map Part.p3).map fun p => goalOf p.1) = [goalOf x.enc] from rfl, hnode]
      generalize hnd : PyData.tuple [.str "not", .list (placesFrom (N.length + 2) (([⟨x, a, (Tm.var q).enc⟩] : List Part).map Part.p3).length)] = nd
      have hG₇ : GS (upd (mix σ₅ τ) 13 (.list (N ++ [nd, goalOf (.tuple [.str "s", .int 10, .tuple [a, b]]), goalOf x.enc]))) S₁ ks (N ++ [nd, goalOf (.tuple [.str "s", .int 10, .tuple [a, b]]), goalOf x.enc]) (W ++ (rowsFrom (N.length + 2) (([⟨x, a, (Tm.var q).enc⟩] : List Part).map Part.p3)).reverse) :=
        hG₆.tree (Off.refl.upd (by exact tT)) ⟨hG₆.tr.1, hG₆.tr.2.1, rfl, hG₆.tr.2.2.2⟩
      have o₇ := o₆.upd (n := 13) (o := .list (N ++ [nd, goalOf (.tuple [.str "s", .int 10, .tuple [a, b]]), goalOf x.enc])) (by exact tT)
      have hsz : t.size = x.size + 1 := by rw [hxy]; rfl
      have htx := hxy ▸ ht₁
      have p1 := x.size_pos
      refine S_cons <| X_retK kR <| T_tuple <| Ts_cons <| T_cstr <| Ts_cons <| T_list <| Ts_cons <| T_name rfl <| Ts_cons <| T_bin <| T_name rfl <| T_cint <| O_add <| Ts_nil ⟨[.int (N.length : Int), .int ((N.length : Int) + 1)], rfl, leT tT, Ts_nil ⟨[.str "and", .list [.int (N.length : Int), .int ((N.length : Int) + 1)]], rfl, leT tT, datLow _, rowsOf (N.length + 2) [⟨x, a, (Tm.var q).enc⟩], _, [nd, goalOf (.tuple [.str "s", .int 10, .tuple [a, b]]), goalOf x.enc], S₁, rfl, hle1.up (by omega), ?_, ?_, ?_, ?_, ?_, ?_, ?_, o₇⟩⟩
      · rw [rowsOf_enc]; exact hG₇
      · refine ⟨"and", _, rfl, .inr ⟨[(N.length : Int), (N.length : Int) + 1], rfl, ?_, by simp, by simp, fun q => by exact absurd q Bool.false_ne_true⟩⟩
        intro k hk
        simp only [List.mem_cons, List.not_mem_nil, or_false, List.length_cons, List.length_nil] at hk ⊢
        omega
      · intro z hz
        simp only [List.mem_cons, List.not_mem_nil, or_false] at hz
        rcases hz with rfl | rfl | rfl
        · rw [← hnd]; exact wfPlaces (by simp) (by simp) (by simp) (fun q => absurd q Bool.false_ne_true)
        · exact wfGoal _ _
        · exact wfGoal _ _
      · simp; omega
      · exact rowsOf_ok (by simp) (by
          intro p hp
          rw [List.mem_singleton.mp hp]; exact ⟨htx.2, by simp [Tm.enc]⟩)
      · rw [rowsOf_t]
        show x.size + 0 < t.size
        omega
      · rw [rowsOf_t, ← pf₁, hxy]
        show (partFault S₁ x).or none = if (4 : Int) = 4 then partFault S₁ x else none
        rw [Option.or_none]; rfl
end
theorem WfNode.mono {n m : Nat} (h : n ≤ m) {y : PyData} (k : WfNode n y) : WfNode m y := by
  obtain ⟨w, x, e, k⟩ := k
  refine ⟨w, x, e, k.imp id fun ⟨ks, e1, e2, e3⟩ => ⟨ks, e1, fun k hk => ⟨(e2 k hk).1, by have := (e2 k hk).2; omega⟩, e3⟩⟩
theorem RowOk.mono {c n m : Nat} {S S' : Sy} (hl : Le c S S') (h : n ≤ m) {r : Row} (k : RowOk S n r) : RowOk S' m r := ⟨by have := k.1; omega, k.2.1.mono hl, k.2.2⟩
theorem fmGoal (w : World) : FM w 379 "goal" 376 := ⟨by kernel_rfl, by kernel_rfl, by kernel_rfl, by kernel_rfl⟩
noncomputable def tsOf (rows : List Row) : List Tm := rows.reverse.map (·.t)
theorem tsOf_snoc (rows : List Row) (r : Row) : tsOf (rows ++ [r]) = r.t :: tsOf rows := by simp [tsOf]
theorem tsOf_app (rows new : List Row) : tsOf (rows ++ new.reverse) = new.map (·.t) ++ tsOf rows := by simp [tsOf]
section
variable {cx : Cx} {σ : Store}
set_option maxHeartbeats 2000000 in
theorem c_body (ok : CxOk cx) {S : Sy} {ks : List Int} (hS : SymAt σ S) (hfr : ∃ j, FrAt σ j) (hgv : GvAt σ ks) (hfree : ∀ n, 11 ≤ n → n ≤ 16 → σ n = .free) (hB : Base S) (hz : S.size ≤ 50000) (t : Tm) (ht : Ok S t) (ht' : t.size ≤ 300) (a b : PyData) (hb : b ≠ .none) :
    TC cx 7 (.ref 390) [.loc 1, .dat t.enc, .dat a, .dat b, .loc 9] σ (fun l σ' => partFault S t = none ∧ (∃ x, l = .dat x) ∧ (∃ S', SymAt σ' S' ∧ Le 1200 S S') ∧ (∃ j, FrAt σ' j) ∧ Off [3, 4, 5, 6, 8, 11, 12, 13, 14] σ σ') (fun z => ∃ F S', Le 1200 S S' ∧ partFault S t = some F ∧ z = F.ball S') := by
  refine TC_fn2 (d := 7) (ls := [.loc 1, .dat t.enc, .dat a, .dat b, .loc 9]) ok (show _ = some (o390_8 cx.w.params) by kernel_rfl) (by kernel_rfl) ["symbols", "term", "first", "last", "new"] ?_ ?_ (by decide) ?_ ?_
  · exact bnd5 fun _ _ _ _ _ _ => BindsTo.of_eq rfl
  · decide +kernel
  · intro fD fE fK eE kR kN
    have fr : ∀ n, 11 ≤ n → n ≤ 16 → low σ n = .free := fun n h1 h2 => (low_lt (by omega)).trans (hfree n h1 h2)
    refine S_cons <| X_assign <| T_def (a := 379) ok (by kernel_rfl) (by kernel_rfl) <| Ts_cons <| T_name (l := .dat t.enc) rfl <| Ts_cons <| T_name rfl <| Ts_cons <| T_name rfl <| Ts_nil <|
      OC_new (d := 5) (n := 11) (k := 12) ok ⟨by kernel_rfl, by kernel_rfl, by kernel_rfl⟩ (fr 11 (by decide) (by decide)) (fr 12 (by decide) (by decide)) (lowOk (by exact tT))
        ((c_treeInit ok t.enc a b (by rfl) (by rfl) (show upd (upd (low σ) 12 _) 11 _ 13 = _ from fr 13 (by decide) (by decide)) (show upd (upd (low σ) 12 _) 11 _ 14 = _ from fr 14 (by decide) (by decide))).mono (Nat.zero_le 5) (fun _ _ q => q) fun _ h => h) fun l σ₁ ⟨hl, hT₁, ho₁⟩ => ⟨hl, ?_⟩
    have o₁ : Off [11, 12, 13, 14] (low σ) (mix σ₁ (upd (upd (low σ) 12 (.ns [])) 11 (.inst 379 12))) := ((Off.refl.upd (by exact tT)).upd (by exact tT)).mix (ho₁.mono (by exact tT))
    have o₂ : Off [3, 4, 5, 6, 8, 11, 12, 13, 14] σ (mix σ₁ (upd (upd (low σ) 12 (.ns [])) 11 (.inst 379 12))) := Off.low.trans (o₁.mono (by exact tT))
    have hG : GS (mix σ₁ (upd (upd (low σ) 12 (.ns [])) 11 (.inst 379 12))) S ks [goalOf t.enc] [.tuple [.int 0, t.enc, a, b]] :=
      ⟨hS.low.off o₁ (by exact tT), (let ⟨j, f⟩ := hfr; ⟨j, f.low.off o₁ (by exact tT) (by exact tT)⟩), hgv.low.off o₁ (by exact tT) (by exact tT), hT₁.mix, (o₁.at1 15 (by exact tT)).trans (fr 15 (by decide) (by decide)), (o₁.at1 16 (by exact tT)).trans (fr 16 (by decide) (by decide))⟩
    generalize mix σ₁ (upd (upd (low σ) 12 (.ns [])) 11 (.inst 379 12)) = τ at hG o₂
    refine S_cons <| X_while (.exE eE) (fun n m τ' => ∃ rows N S', n = total (tsOf rows) ∧ total (tsOf rows) ≤ t.size ∧ Le (4 * (t.size - total (tsOf rows))) S S' ∧ GS τ' S' ks N (rows.map Row.enc) ∧ N.length ≤ 1 + 302 * (t.size - total (tsOf rows)) ∧ 0 < N.length ∧ (∀ y ∈ N, WfNode N.length y) ∧ (∀ r ∈ rows, RowOk S' N.length r) ∧ stackF S' (tsOf rows) = partFault S t ∧ lk m "symbols" = some (.loc 1) ∧ lk m "new" = some (.loc 9) ∧ lk m "tree" = some (.loc 11) ∧ Off [3, 4, 5, 6, 8, 11, 12, 13, 14] σ τ') (total [t]) ⟨[⟨0, t, a, b⟩], [goalOf t.enc], S, rfl, ?_, ?_, hG, ?_, by simp, ?_, ?_, Option.or_none, rfl, rfl, rfl, o₂⟩ ?_
    · show t.size + 0 ≤ t.size
      omega
    · exact (Le.refl S).up (by omega)
    · show 1 ≤ _
      omega
    · intro y hy
      rw [List.mem_singleton.mp hy]; exact wfGoal _ _
    · intro r hr
      rw [List.mem_singleton.mp hr]; exact ⟨by simp, ht, hb⟩
    · intro n m τ' j
      obtain ⟨rows, N, S', j⟩ := j
      refine and13 j fun j0 hle hS' hG' hN hN0 hwf hrow hst e1 e2 e3 o => ?_
      clear j
      subst j0
      have sz := hS'.size
      have hlr : rows.length ≤ t.size := by
        have := total_len (tsOf rows)
        unfold tsOf at this hle
        rw [List.length_map, List.length_reverse] at this
        omega
      refine TT_plain <| T_tree ok e3 hG'.tr (.inr ⟨rfl, rfl⟩) (OT_list hG'.tr.2.2.2 (by rw [List.length_map]; omega) ⟨fun hc => ?_, fun hc => ?_⟩)
      · obtain ⟨rs, r, rfl⟩ : ∃ us z, rows = us ++ [z] := ⟨_, _, (List.dropLast_concat_getLast (by rintro rfl; cases hc)).symm⟩
        rw [tsOf_snoc] at *
        have hr := hrow r (by simp)
        have hpos := r.t.size_pos
        have htot : total (r.t :: tsOf rs) = r.t.size + total (tsOf rs) := rfl
        rw [List.length_append] at hlr
        refine S_cons <| X_unpack (names := [("place", _), ("part", _), ("here", _), ("there", _)]) (by decide) (T_methB PySem.F.plainAttrs_list PySem.F.slot_list_pop PySem.F.type_list_pop <| T_tree ok e3 hG'.tr (.inr ⟨rfl, rfl⟩) ⟨14, rfl, by rw [hG'.tr.2.2.2]; rfl, by decide, Ts_nil <| OC_pop (n := 14) (xs := rs.map Row.enc) (x := r.enc) (by rw [hG'.tr.2.2.2, List.map_append]; rfl) (by rw [List.length_map]; omega) ⟨[.int (r.place : Int), r.t.enc, r.a, r.b], rfl, rfl, ?_⟩⟩) (by intro x hx; simp only [List.mem_cons, List.not_mem_nil, or_false] at hx; rcases hx with rfl | rfl | rfl | rfl <;> rfl)
        show TS _ _ _ _ _ (putl (putl (putl (putl m "place" (.dat (.int (r.place : Int)))) "part" (.dat r.t.enc)) "here" (.dat r.a)) "there" (.dat r.b)) _ _
        have hG₂ : GS (upd τ' 14 (.list (rs.map Row.enc))) S' ks N (rs.map Row.enc) := hG'.tree (Off.refl.upd (by exact tT)) ⟨hG'.tr.1, hG'.tr.2.1, hG'.tr.2.2.1, rfl⟩
        have o₃ := o.upd (n := 14) (o := .list (rs.map Row.enc)) (by exact tT)
        have n4 : ∀ {x : Str} {l : LV}, lk m x = some l → sb "place" x = false → sb "part" x = false → sb "here" x = false → sb "there" x = false → lk (putl (putl (putl (putl m "place" (.dat (.int (r.place : Int)))) "part" (.dat r.t.enc)) "here" (.dat r.a)) "there" (.dat r.b)) x = some l := fun h a b c d => (lkp_ne d).trans ((lkp_ne c).trans ((lkp_ne b).trans ((lkp_ne a).trans h)))
        have g1 := n4 e1 rfl rfl rfl rfl
        have g2 := n4 e2 rfl rfl rfl rfl
        have g3 := n4 e3 rfl rfl rfl rfl
        have g4 : lk (putl (putl (putl (putl m "place" (.dat (.int (r.place : Int)))) "part" (.dat r.t.enc)) "here" (.dat r.a)) "there" (.dat r.b)) "place" = _ := (lkp_ne rfl).trans ((lkp_ne rfl).trans ((lkp_ne rfl).trans (lkp_same rfl)))
        have g5 : lk (putl (putl (putl (putl m "place" (.dat (.int (r.place : Int)))) "part" (.dat r.t.enc)) "here" (.dat r.a)) "there" (.dat r.b)) "part" = _ := (lkp_ne rfl).trans ((lkp_ne rfl).trans (lkp_same rfl))
        have g6 : lk (putl (putl (putl (putl m "place" (.dat (.int (r.place : Int)))) "part" (.dat r.t.enc)) "here" (.dat r.a)) "there" (.dat r.b)) "here" = _ := (lkp_ne rfl).trans (lkp_same rfl)
        have g7 : lk (putl (putl (putl (putl m "place" (.dat (.int (r.place : Int)))) "part" (.dat r.t.enc)) "here" (.dat r.a)) "there" (.dat r.b)) "there" = _ := lkp_same rfl
        generalize putl (putl (putl (putl m "place" (.dat (.int (r.place : Int)))) "part" (.dat r.t.enc)) "here" (.dat r.a)) "there" (.dat r.b) = m at g1 g2 g3 g4 g5 g6 g7
        refine S_cons <| X_sub <| T_def (a := 395) ok (by kernel_rfl) (by kernel_rfl) <| Ts_cons <| T_name g1 <| Ts_cons <| T_name g5 <| Ts_cons <| T_name g6 <| Ts_cons <| T_name g7 <| Ts_cons <| T_name g2 <| Ts_cons <| T_name g3 <| Ts_nil <|
          OC_of (c_part ok hG₂ (hB.mono hS') (by omega) (by omega) (by rw [List.length_map]; omega) r.t hr.2.1 (by omega) r.a r.b hr.2.2) (lowOk (by exact tT)) (.exE eE ?_) fun l σ₃ ll ⟨nrows, y, Nx, S'', hl, hle'', hG₃, hwy, hwx, hNx, hro, htt, hsf, ho₃⟩ => ?_
        · rintro z ⟨F, S'', hl'', hpf, rfl⟩
          refine ⟨F, S'', (hS'.trans hl'').up (by omega), ?_, rfl⟩
          rw [← hst]
          show (partFault S' r.t).or _ = _
          rw [hpf]; rfl
        subst hl
        have hlen : (N ++ Nx).length = N.length + Nx.length := List.length_append
        refine T_tree ok g3 hG₃.tr.mix (.inl ⟨rfl, rfl⟩) <| T_name g4 <| OU_L (n := 13) hG₃.tr.mix.2.2.1 (by omega) (by have := hr.1; rw [Int.toNat_natCast, hlen]; omega) (by have := hr.1; omega) (S_nil ?_)
        rw [Int.toNat_natCast]
        have hset : ((N ++ Nx).set r.place y).length = N.length + Nx.length := by rw [List.length_set, hlen]
        have htot' : total (tsOf (rs ++ nrows.reverse)) = total (nrows.map (·.t)) + total (tsOf rs) := by rw [tsOf_app, total_app]
        refine ⟨_, ?_, rs ++ nrows.reverse, (N ++ Nx).set r.place y, S'', rfl, ?_, ?_, ?_, ?_, ?_, ?_, ?_, ?_, g1, g2, g3, ?_⟩
        · omega
        · omega
        · exact (hS'.trans hle'').up (by omega)
        · rw [List.map_append, List.map_reverse]
          exact (hG₃.off0 (Off.refl (L := []) |>.trans (fun n hn _ => (mix_lt hn)))).tree (Off.refl.upd (by exact tT)) ⟨hG₃.tr.1, hG₃.tr.2.1, rfl, hG₃.tr.2.2.2⟩
        · rw [hset]; omega
        · rw [hset]; omega
        · intro z hz
          rw [hset]
          rcases List.mem_or_eq_of_mem_set hz with hz | rfl
          · rcases List.mem_append.mp hz with hz | hz
            · exact (hwf z hz).mono (by omega)
            · exact hwx z hz
          · exact hwy
        · intro q hq
          rw [hset]
          rcases List.mem_append.mp hq with hq | hq
          · exact (hrow q (List.mem_append_left _ hq)).mono hle'' (by omega)
          · exact hro q (List.mem_reverse.mp hq)
        · rw [tsOf_app, stackF_app, hsf, ← hst, stackF_mono hle'' (fun u hu => ?_)]
          · rfl
          · obtain ⟨q, hq, rfl⟩ := List.mem_map.mp hu
            exact (hrow q (List.mem_append_left _ (List.mem_reverse.mp hq))).2.1
        · exact ((o₃.mix (ho₃.mono (by exact tT))).upd (by exact tT))
      · obtain rfl : rows = [] := by cases rows <;> first | rfl | cases hc
        have hnone : partFault S t = none := hst.symm
        refine S_cons <| X_retK kR <| T_meth ok (T_name e3 ⟨11, 379, 12, _, 376, rfl, hG'.tr.1, hG'.tr.2.1, rfl, fmGoal _, by decide, Ts_nil <| OC_of (c_goal ok hG'.tr (by omega) hN0 hwf) (lowOk (by exact tT)) .never fun l σ₄ ll ⟨hx, ho₄⟩ => ?_⟩)
        have hG₅ := hG'.off0 (Off.refl.mix ho₄)
        exact ⟨ll, hnone, hx, ⟨S', hG₅.sym, hS'.up (by omega)⟩, hG₅.fr, o.mix (ho₄.mono (by exact tT))⟩
  · decide +kernel
end
theorem rv_owner : Manifest.owners.lookup (String.ofList ['d', 'e', 's', 'r', 'e', 'v', 'e', 'r'].reverse.reverse.reverse) = some Manifest.sig_reversed := by kernel_rfl
theorem rv_slot_next : Slot "reversed" "__next__" "reversed.__next__" :=
  .of (owner := "reversed") (n := "__next__") (by rw [typeLookup_type, builtinLookup_eq_fast]; kernel_rfl) (by decide +kernel) (by decide +kernel) (by decide +kernel)
    (by first | exact .inl (by decide +kernel) | exact .inr (by decide +kernel)) (by rw [isSubtype_type]; kernel_rfl)
theorem rv_entry_next : entryFor table "reversed.__next__" = some Builtin.«reversed.__next__» := entryFor_of_tree (by kernel_rfl)
theorem rv_args_next (a : Value) : argsOk "reversed.__next__" ⟨[a], []⟩ := by
  unfold argsOk; rw [signature?_of (id := "reversed.__next__") (n := ['_', '_', 't', 'x', 'e', 'n', '_', '_']) (o := ['d', 'e', 's', 'r', 'e', 'v', 'e', 'r']) (by kernel_rfl) rv_owner]; kernel_rfl
theorem rv_slot_iter : Slot "reversed" "__iter__" "reversed.__iter__" :=
  .of (owner := "reversed") (n := "__iter__") (by rw [typeLookup_type, builtinLookup_eq_fast]; kernel_rfl) (by decide +kernel) (by decide +kernel) (by decide +kernel)
    (by first | exact .inl (by decide +kernel) | exact .inr (by decide +kernel)) (by rw [isSubtype_type]; kernel_rfl)
theorem rv_args_iter (a : Value) : argsOk "reversed.__iter__" ⟨[a], []⟩ := by
  unfold argsOk; rw [signature?_of (id := "reversed.__iter__") (n := ['_', '_', 'r', 'e', 't', 'i', '_', '_']) (o := ['d', 'e', 's', 'r', 'e', 'v', 'e', 'r']) (by kernel_rfl) rv_owner]; kernel_rfl
theorem rv_entry_iter : entryFor table "reversed.__iter__" = some Builtin.«dict_keyiterator.__iter__» :=
  entryFor_alias (id' := "dict_keyiterator.__iter__") (by kernel_rfl) (by first | rfl | decide +kernel | (unfold String.splitOn; simp +decide [String.splitOnAux])) (by decide +kernel) (by kernel_rfl)
theorem rv_slot_hint : Slot "reversed" "__length_hint__" "reversed.__length_hint__" :=
  .of (owner := "reversed") (n := "__length_hint__") (by rw [typeLookup_type, builtinLookup_eq_fast]; kernel_rfl) (by decide +kernel) (by decide +kernel) (by decide +kernel)
    (by first | exact .inl (by decide +kernel) | exact .inr (by decide +kernel)) (by rw [isSubtype_type]; kernel_rfl)
theorem rv_entry_hint : entryFor table "reversed.__length_hint__" = some Builtin.«reversed.__length_hint__» := entryFor_of_tree (by kernel_rfl)
theorem rv_args_hint (a : Value) : argsOk "reversed.__length_hint__" ⟨[a], []⟩ := by
  unfold argsOk; rw [signature?_of (id := "reversed.__length_hint__") (n := ['_', '_', 't', 'n', 'i', 'h', '_', 'h', 't', 'g', 'n', 'e', 'l', '_', '_']) (o := ['d', 'e', 's', 'r', 'e', 'v', 'e', 'r']) (by kernel_rfl) rv_owner]; kernel_rfl
theorem rv_nolen : typeLookup (.type "reversed") "__len__" = pure none := by rw [typeLookup_type, builtinLookup_eq_fast]; kernel_rfl
theorem lr_nolen : typeLookup (.type "list_reverseiterator") "__len__" = pure none := by rw [typeLookup_type, builtinLookup_eq_fast]; kernel_rfl
theorem lr_hint : typeLookup (.type "list_reverseiterator") "__length_hint__" = pure (some (.builtin "list_reverseiterator.__length_hint__")) := by rw [typeLookup_type, builtinLookup_eq_fast]; kernel_rfl
theorem tup_norev : typeLookup (.type "tuple") "__reversed__" = pure none := by rw [typeLookup_type, builtinLookup_eq_fast]; kernel_rfl
theorem tup_nodict : isSubtype (.type "tuple") (.type "dict") = pure false := by rw [isSubtype_type]; kernel_rfl
theorem rv_slot_init : Slot "reversed" "__init__" "object.__init__" :=
  .of (owner := "object") (n := "__init__") (by rw [typeLookup_type, builtinLookup_eq_fast]; kernel_rfl) (by decide +kernel) (by decide +kernel) (by decide +kernel)
    (by first | exact .inl (by decide +kernel) | exact .inr (by decide +kernel)) (by rw [isSubtype_type]; kernel_rfl)
theorem rv_called : TypeCalled "reversed" "reversed.__new__" "object.__init__" :=
  ⟨by decide +kernel, by decide +kernel, ⟨_, _, PySem.F.mro_reversed⟩, PySem.F.made_reversed, by decide +kernel, PySem.F.sub_reversed_self, rv_slot_init⟩
noncomputable def rvObj (t : Addr) (i : Int) : Obj := { cls := .type "reversed", data := .fields #[.ref t, rawInt i] }
noncomputable def IsRv (h : Heap) (a t : Addr) (i : Int) : Prop := ∃ o, h.get? a = some o ∧ o.cls = .type "reversed" ∧ o.data = .fields #[.ref t, rawInt i]
theorem IsRv.typeIs {s : Shared} {a l : Addr} {i : Int} (x : IsRv s.heap a l i) : s.TypeIs (.ref a) "reversed" := let ⟨o, ho, hc, _⟩ := x; ⟨o, ho, hc⟩
section
variable {prog : Program} {w : World} {A : Around} {E : Value → Shared → Prop} {s : Shared}
theorem rv_new (t : Addr) (items : Array Value) : MeetsIn prog w (Builtin.«reversed.__new__» ⟨[.type "reversed", .ref t], []⟩) (fun _ R s => IsTup s.heap t items ∧ (items.size : Int) < 2 ^ 62 ∧
    R (.ok (.ret (.ref s.heap.objs.size))) { s with heap := s.heap.push (rvObj t ((items.size : Int) - 1)), toks := s.toks + 1 + 1 }) :=
  .of_wp fun A R s ⟨ht, hz, h⟩ => by
    unfold Builtin.«reversed.__new__»
    refine wpAny_bind (wpAny_of_eq (newClass_reversed _) ?_)
    try dsimp only
    refine wpAny_bind (wpAny_of_eq (a := ()) (by first | rfl | kernel_rfl) ?_)
    refine wpAny_bind (wpAny_of_eq (a := ()) (by first | rfl | kernel_rfl) ?_)
    try dsimp only
    refine wpAny_bind (wpAny_specialOf ht.typeIs tup_norev ?_)
    try dsimp only
    refine wpAny_bind ?_
    wp_delta
    refine wpAny_bind (wpAny_isInstance (T := "tuple") (b := false) ht.typeIs tup_nodict ?_)
    refine wpAny_ite_split (fun hab => absurd hab (by decide)) (fun _ => ?_)
    refine wpAny_bind (wpAny_specialOf ht.typeIs slot_tuple_getitem.lookup ?_)
    dsimp only
    refine wpAny_ite_split (fun _ => ?_) (fun hab => absurd (by decide +kernel) hab)
    refine wpAny_pure ?_
    refine wpAny_ite_split (fun hab => absurd hab (by decide)) (fun _ => ?_)
    refine wpAny_bind (len_tuple ht (by lia) ?_)
    refine wpAny_bind (m := asInt? (.int items.size (s.toks + 1))) (wpAny_pure ?_)
    dsimp only
    refine wpAny_bind ?_
    show wpAny _ _ (newObj (.type "reversed") (.fields [Value.ref t, rawInt ((items.size : Int) - 1)].toArray)) _ _ _
    exact wpAny_newObj_type (wpAny_pure ⟨_, rfl, h⟩)
theorem call_reversed_tuple {t : Addr} {items : Array Value} {Q : Value → Shared → Prop} (ht : IsTup s.heap t items) (hz : (items.size : Int) < 2 ^ 62)
    (h : Q (.ref s.heap.objs.size) { s with heap := s.heap.push (rvObj t ((items.size : Int) - 1)), toks := s.toks + 1 + 1 }) : wpAny (model prog w) A (call (.type "reversed") [.ref t]) Q E s :=
  callType_newIn rv_called (by decide) (PySem.F.typeCall_reversed_1 _) (PySem.F.newCall_reversed_1 _) (fun obj => PySem.F.args_object_init_2 obj _) PySem.F.entry_reversed_new (rv_new t items) ⟨ht, hz, ⟨_, Heap.get?_push_size _ rfl, rfl⟩, h⟩
theorem rv_next_item {it l : Addr} {i : Nat} {items : Array Value} {x : Value} {Q : Option Value → Shared → Prop} (hit : IsRv s.heap it l (i : Int)) (hl : IsTup s.heap l items) (hx : items[i]? = some x) (hz : (items.size : Int) < 2 ^ 62)
    (hQ : ∀ h' tk, IsRv h' it l ((i : Int) - 1) → Heap.SameBut it s.heap h' → Q (some x) { s with heap := h', toks := tk }) : wpAny (model prog w) A (pyNext (.ref it)) Q E s := by
  obtain ⟨o, ho, hc, hd⟩ := id hit
  have hlt := (Array.getElem?_eq_some_iff.mp hx).1
  unfold pyNext
  refine wpAny_bind (wpAny_attempt (wpAny_callSpecial?_slot (name := Str.ofString "__next__") hit.typeIs rv_slot_next
    (wpAny_call_entry rv_slot_next hit.typeIs rv_entry_next ?_ (rv_args_next _))))
  unfold Builtin.«reversed.__next__»
  refine wpAny_bind (wpAny_of_eq (a := (Value.ref it, [])) rfl ?_)
  try dsimp only
  refine wpAny_bind (wpAny_field ho hd (x := .ref l) rfl ?_)
  refine wpAny_bind (wpAny_field ho hd (x := rawInt (i : Int)) rfl ?_)
  show wpAny _ _ (if (i : Int) < 0 then _ else _) _ _ s
  rw [if_neg (by lia)]
  refine wpAny_bind (wpAny_specialOf hl.typeIs slot_tuple_getitem.lookup ?_)
  refine wpAny_ite_split (fun hab => absurd hab (by decide)) (fun _ => ?_)
  refine wpAny_bind (wpAny_mkInt ?_)
  refine wpAny_bind (wpAny_attempt (getItem_tuple (s := { s with toks := s.toks + 1 }) hl (by lia) (by lia) (Mine.seqIndex_nat (by lia) (by rw [Int.toNat_natCast]; exact hlt)) (by rw [Int.toNat_natCast]; exact hx) ?_))
  dsimp only
  refine wpAny_bind (wpAny_field (s := { s with toks := s.toks + 1 }) ho hd (x := rawInt (i : Int)) rfl ?_)
  dsimp only [rawInt]
  refine wpAny_bind (wpAny_setField (s := { s with toks := s.toks + 1 }) ho hd (by simp) ?_)
  refine wpAny_pure ⟨x, rfl, wpAny_pure (hQ _ _ ?_ (Heap.SameBut.update ..))⟩
  exact ⟨_, Heap.get?_update_self _ ho (Obj.isFreed_of_fields (Obj.data_mapFields hd _)), (Obj.cls_mapFields ..).trans hc, by
    rw [Obj.data_mapFields hd]; simp [rawInt]⟩
theorem rv_next_end {it l : Addr} {Q : Option Value → Shared → Prop} (hh : A.handled = none) (hit : IsRv s.heap it l (-1))
    (hQ : ∀ h', Heap.ExtBut it s.heap h' → Q none { s with heap := h' }) : wpAny (model prog w) A (pyNext (.ref it)) Q E s := by
  obtain ⟨o, ho, hc, hd⟩ := id hit
  unfold pyNext
  refine wpAny_bind (wpAny_attempt (wpAny_callSpecial?_slot (name := Str.ofString "__next__") hit.typeIs rv_slot_next
    (wpAny_call_entry rv_slot_next hit.typeIs rv_entry_next ?_ (rv_args_next _))))
  unfold Builtin.«reversed.__next__»
  refine wpAny_bind (wpAny_of_eq (a := (Value.ref it, [])) rfl ?_)
  try dsimp only
  refine wpAny_bind (wpAny_field ho hd (x := .ref l) rfl ?_)
  refine wpAny_bind (wpAny_field ho hd (x := rawInt (-1)) rfl ?_)
  show wpAny _ _ (if (-1 : Int) < 0 then _ else _) _ _ s
  rw [if_pos (by decide)]
  refine wpAny_bind (wpAny_rule ?_)
  refine wpAny_bind ?_
  wp_delta
  refine wpAny_bind (wpAny_setField ho hd (by simp) ?_)
  have ho₁ := Heap.get?_update_self (Obj.mapFields (·.setIfInBounds 1 (rawInt (-1)))) ho (Obj.isFreed_of_fields (Obj.data_mapFields hd _))
  have hd₁ := Obj.data_mapFields hd (·.setIfInBounds 1 (rawInt (-1)))
  refine wpAny_setField ho₁ hd₁ (by simp) ?_
  first
  | show wpAny _ _ (newExc (.type "StopIteration") [] >>= _) _ _ _
  | (refine wpAny_bind ?_; show wpAny _ _ (newExc (.type "StopIteration") [] >>= _) _ _ _)
  refine wpAny_bind ?_
  simp only [newExc, newTuple]
  refine wpAny_bind (wpAny_newObj_type ?_ (by size_fits))
  refine wpAny_bind (m := firstArgMember _ _) (wpAny_of_eq (a := Value.none) (by first | rfl | (simp only [firstArgMember]; rfl)) ?_)
  refine wpAny_newObj_type ?_ (by size_fits)
  simp only [raiseNew]
  refine wpAny_bind (wpAny_handled ?_)
  first | rw [show A.in1.handled = none from hh] | rw [hh]
  refine wpAny_bind (wpAny_pure (wpAny_throw ?_))
  refine wpAny_bind (wpAny_isInstance (T := "StopIteration") (b := true) ⟨_, Heap.get?_push_size _ rfl, rfl⟩ isSubtype_stop ?_)
  refine wpAny_pure (hQ _ fun b o hb e => ?_)
  exact Heap.get?_push_of_some _ (Heap.get?_push_of_some _ ((Heap.get?_update_other _ _ (Ne.symm hb)).trans ((Heap.get?_update_other _ _ (Ne.symm hb)).trans e)))
theorem rv_iter {it l : Addr} {i : Int} {Q : Value → Shared → Prop} (hit : IsRv s.heap it l i) (h : Q (.ref it) s) : wpAny (model prog w) A (pyIter (.ref it)) Q E s := by
  refine wpAny_pyIter_slot hit.typeIs rv_slot_iter (wpAny_call_entry rv_slot_iter hit.typeIs rv_entry_iter ?_ (rv_args_iter _))
  show wpAny _ _ (ret (.ref it)) _ _ s
  exact wpAny_pure ⟨_, rfl, "reversed", _, hit.typeIs, rv_slot_next.lookup, h⟩
end
theorem IsRv.at {h h' : Heap} {a l : Addr} {i : Int} (x : IsRv h a l i) (e : ∀ o, h.get? a = some o → h'.get? a = some o) : IsRv h' a l i := let ⟨o, ho, r⟩ := x; ⟨o, e _ ho, r⟩
theorem tupAt {h h' : Heap} {l : Addr} {items : Array Value} (x : IsTup h l items) (e : ∀ o, h.get? l = some o → h'.get? l = some o) : IsTup h' l items := let ⟨o, ho, r⟩ := x; ⟨o, e _ ho, r⟩
theorem rv_walks {prog : Program} {w : World} {A : Around} (hh : A.handled = none) (I l : Addr) (hne : l ≠ I) (items : Array Value) (hz : (items.size : Int) < 2 ^ 62) :
    Walks prog w A I [I, l] [I] items.size (fun i v => items[items.size - 1 - i]? = some v) (fun i h => i ≤ items.size ∧ IsRv h I l ((items.size : Int) - 1 - (i : Int)) ∧ IsTup h l items) where
  sub := fun b hb => by simp at hb; simp [hb]
  frame := fun _ _ _ x hk => ⟨x.1, x.2.1.at fun o e => hk I (by simp) o e, tupAt x.2.2 fun o e => hk l (by simp) o e⟩
  item := fun i s Q E hi x hQ => by
    have e : (items.size : Int) - 1 - (i : Int) = ((items.size - 1 - i : Nat) : Int) := by lia
    have hit := x.2.1
    rw [e] at hit
    have hx : items[items.size - 1 - i]? = some (items[items.size - 1 - i]'(by lia)) := Array.getElem?_eq_getElem (by lia)
    refine rv_next_item hit x.2.2 hx hz fun h' tk hit' hs' => ?_
    have e2 : ((items.size - 1 - i : Nat) : Int) - 1 = (items.size : Int) - 1 - ((i + 1 : Nat) : Int) := by lia
    rw [e2] at hit'
    exact hQ _ h' tk hx ⟨hi, hit', tupAt x.2.2 fun o eo => (hs'.2 l hne).trans eo⟩ fun b o hb eo => hs'.extBut b o (fun h => hb (by simp [h])) eo
  done := fun s Q E x hQ => by
    have e : (items.size : Int) - 1 - (items.size : Int) = -1 := by lia
    have hit := x.2.1
    rw [e] at hit
    exact rv_next_end hh hit fun h' he' => hQ h' s.toks fun b o hb eo => he' b o (fun h => hb (by simp [h])) eo
  self := fun _ _ _ _ x hQ => rv_iter x.2.1 hQ
section
variable {prog : Program} {w : World} {A : Around} {R : Result → Shared → Prop} {I : Addr} {fp wr : List Addr} {n : Nat} {P : Nat → Value → Prop} {St : Nat → Heap → Prop}
theorem ext_loop (W : Walks prog w A.in1 I fp wr n P St) (S : Addr) (hSf : S ∉ fp) (pre : Array Value) (hz : pre.size + n ≤ sizeLine) (res : Value) :
    ∀ (k i : Nat) (s : Shared) (acc : Array Value) (c : Nat), n - i = k → i ≤ n → St i s.heap → s.heap.get? S = some { cls := .type "list", dict := none, data := .seq (pre ++ acc) c, slots := #[] } → ItemsOf P acc i →
    (∀ h' tk acc' c', (∀ b o, b ∉ S :: wr → s.heap.get? b = some o → h'.get? b = some o) → h'.get? S = some { cls := .type "list", dict := none, data := .seq (pre ++ acc') c', slots := #[] } → ItemsOf P acc' n → R (.ok (.ret res)) { s with heap := h', toks := tk }) →
    codeAny (model prog w) A (.builtin "list.extend.loop" ⟨[.ref S, .ref I, res], []⟩) R s := by
  have hSw : S ∉ wr := fun h => hSf (W.sub _ h)
  intro k
  induction k with
  | zero =>
    intro i s acc c hk hi hst hS hacc hR
    have hin : i = n := by lia
    subst hin
    refine codeAny_builtin PySem.F.entry_extend_loop ?_
    rw [Around.under_plainId PySem.F.plain_extend_loop _]
    show wpAny _ A.in1 (pyNext (.ref I) >>= _) _ _ s
    refine wpAny_bind (W.done s _ _ hst fun h' tk k => ?_)
    exact wpAny_pure (hR h' tk acc c (fun b o hb e => k b o (fun q => hb (.tail _ q)) e) (k S _ hSw hS) hacc)
  | succ k ih =>
    intro i s acc c hk hi hst hS hacc hR
    have hlt : i < n := by lia
    refine codeAny_builtin PySem.F.entry_extend_loop ?_
    rw [Around.under_plainId PySem.F.plain_extend_loop _]
    show wpAny _ A.in1 (pyNext (.ref I) >>= _) _ _ s
    refine wpAny_bind (W.item i s _ _ hlt hst fun v h' tk hP hst' hm => ?_)
    have hS' := hm S _ hSw hS
    show wpAny _ A.in1 (updateSeq S (·.push v) >>= _) _ _ _
    refine wpAny_bind ?_
    have oth : ∀ b o, b ≠ S → h'.get? b = some o → (h'.update S (Obj.mapSeq (·.push v))).get? b = some o := fun b o hb e => (Heap.get?_update_other _ _ (Ne.symm hb)).trans e
    have hsz := hacc.1
    refine wpAny_updateSeq hS' rfl (wpAny_pure ⟨plainId_quiet PySem.F.plain_extend_loop _, ih (i + 1) _ (acc.push v) _ (by lia) hlt (W.frame _ _ _ hst' fun b hb o e => oth b o (fun q => hSf (q ▸ hb)) e) (by
        rw [Array.append_push]; exact Heap.get?_update_self _ hS' rfl) (hacc.push hP) fun h'' tk' acc' c' hm'' hS'' hacc' => ?_⟩)
      (by rw [Array.size_append, hacc.1]; lia) (by show ((pre ++ acc).push v).size ≤ sizeLine + 1; rw [Array.size_push, Array.size_append, hacc.1]; lia)
    exact hR h'' tk' acc' c' (fun b o hb e => hm'' b o hb (oth b o (fun q => hb (q ▸ .head _)) (hm b o (fun q => hb (.tail _ q)) e))) hS'' hacc'
theorem ext_with {s : Shared} {T : String} (W : Walks prog w A.in1 I fp wr n P St) (hI : I ∈ fp) (hT : ∀ s : Shared, St 0 s.heap → s.TypeIs (.ref I) T) (notList : (Value.type T == Value.type "list") = false) (notTuple : (Value.type T == Value.type "tuple") = false)
    (hint : ∀ (s : Shared) (Q : Bool → Shared → Prop) (E : Value → Shared → Prop), St 0 s.heap → (∀ b tk, Q b { s with toks := tk }) → wpAny (model prog w) A.in1 (Builtin.List.listLengthHint (.ref I)) Q E s)
    (S : Addr) (hSf : S ∉ fp) (pre : Array Value) (c₀ : Nat) (hz : pre.size + n + 1 ≤ sizeLine) (res : Value) (hst : St 0 s.heap) (hS : s.heap.get? S = some { cls := .type "list", data := .seq pre c₀ })
    (hR : ∀ h' tk acc' c', (∀ b o, b ∉ S :: wr → s.heap.get? b = some o → h'.get? b = some o) → h'.get? S = some { cls := .type "list", dict := none, data := .seq (pre ++ acc') c', slots := #[] } → ItemsOf P acc' n → R (.ok (.ret res)) { s with heap := h', toks := tk }) :
    wpAny (model prog w) A.in1 (Builtin.List.listExtendWith (.ref S) (.ref I) res)
      (fun fin s' => match fin with | .done f => R (.ok f) s' | .again c' => c'.quiet = true ∧ codeAny (model prog w) A c' R s') (fun e s' => R (.error e) s') s := by
  have hSI : S ≠ I := fun q => hSf (q ▸ hI)
  unfold Builtin.List.listExtendWith
  refine wpAny_bind (wpAny_typeOf (T := T) (hT s hst) ?_)
  have h1 : Builtin.List.listSameRef (.ref S) (.ref I) = false := by simp [Builtin.List.listSameRef, hSI]
  simp only [h1, notList, notTuple, Bool.or_false, Bool.false_eq_true, if_false]
  refine wpAny_bind (W.self 0 _ _ _ hst ?_)
  refine wpAny_bind (wpAny_holding (hint _ _ _ hst fun b tk => ?_))
  refine wpAny_ite_split (fun _ => ?_) (fun _ => wpAny_pure ⟨plainId_quiet PySem.F.plain_extend_loop _, ext_loop W S hSf pre (by lia) res n 0 _ #[] c₀ rfl (Nat.zero_le _) hst (by simpa using hS) (ItemsOf.nil P) fun h' tk' acc' c' k hS' hacc => hR h' tk' acc' c' k hS' hacc⟩)
  refine wpAny_bind (wpAny_rule ?_)
  refine wpAny_bind ?_
  show wpAny _ _ (updateSeq S (·.push .none) >>= fun _ => updateSeq S (·.pop)) _ _ _
  refine wpAny_bind (wpAny_updateSeq (s := { s with toks := tk }) hS rfl ?_ (by lia) (by show (pre.push Value.none).size ≤ _; rw [Array.size_push]; lia))
  have hS₂ := Heap.get?_update_self (Obj.mapSeq (·.push Value.none)) hS rfl
  refine wpAny_updateSeq hS₂ rfl ?_ (by show (pre.push Value.none).size ≤ _; rw [Array.size_push]; lia) (by show ((pre.push Value.none).pop).size ≤ _; simp; lia)
  have hS₃ := Heap.get?_update_self (Obj.mapSeq (·.pop)) hS₂ rfl
  have oth : ∀ b o, b ≠ S → s.heap.get? b = some o → ((s.heap.update S (Obj.mapSeq (·.push Value.none))).update S (Obj.mapSeq (·.pop))).get? b = some o :=
    fun b o hb e => (Heap.get?_update_other _ _ (Ne.symm hb)).trans ((Heap.get?_update_other _ _ (Ne.symm hb)).trans e)
  refine wpAny_pure ⟨plainId_quiet PySem.F.plain_extend_loop _, ext_loop W S hSf pre (by lia) res n 0 _ #[] _ rfl (Nat.zero_le _) (W.frame 0 _ _ hst fun b hb o e => oth b o (fun h => hSf (h ▸ hb)) e) (by
    simpa [Obj.mapSeq] using hS₃) (ItemsOf.nil P) fun h' tk' acc' c' k hS' hacc => hR h' tk' acc' c' (fun b o hb e => k b o hb (oth b o (fun q => hb (q ▸ .head _)) e)) hS' hacc⟩
end
section
variable {prog : Program} {w : World} {A : Around} {E : Value → Shared → Prop} {s : Shared} {r l : Addr} {Q : Bool → Shared → Prop}
theorem rv_hint {items : Array Value} (hit : IsRv s.heap r l ((items.size : Int) - 1)) (hl : IsTup s.heap l items) (hz : items.size ≤ 1000) (h : ∀ b tk, Q b { s with toks := tk }) : wpAny (model prog w) A (Builtin.List.listLengthHint (.ref r)) Q E s := by
  obtain ⟨o, ho, hc, hd⟩ := id hit
  unfold Builtin.List.listLengthHint
  refine wpAny_bind (wpAny_specialOf hit.typeIs rv_nolen ?_)
  show wpAny _ _ (specialOf (Value.ref r) (Str.ofString "__length_hint__") >>= _) _ _ _
  refine wpAny_bind (wpAny_specialOf hit.typeIs rv_slot_hint.lookup ?_)
  (generalize hid : ("reversed.__length_hint__" : String) = id0; (fail_if_success (clear hid id0)); wp_delta; rw [show splitId id0 = some ("reversed", "__length_hint__") from by subst hid; decide +kernel]; subst hid)
  refine wpAny_bind (wpAny_isInstance (b := true) hit.typeIs (by rw [isSubtype_type]; kernel_rfl) ?_)
  refine wpAny_ite_split (fun hab => absurd hab (by decide)) (fun _ => ?_)
  refine wpAny_ite_split (fun hab => absurd hab (by decide +kernel)) (fun _ => ?_)
  refine wpAny_bind (wpAny_rule ?_)
  refine wpAny_bind (wpAny_of_eq (rv_slot_hint.bind _) ?_)
  try dsimp only
  refine wpAny_bind (wpAny_attempt (wpAny_call_entry rv_slot_hint hit.typeIs rv_entry_hint ?_ (rv_args_hint _)))
  unfold Builtin.«reversed.__length_hint__»
  refine wpAny_bind (wpAny_of_eq (a := Value.ref r) rfl ?_)
  refine wpAny_bind (wpAny_field ho hd (x := .ref l) rfl ?_)
  refine wpAny_ite_split (fun hab => absurd hab (by simp)) (fun _ => ?_)
  refine wpAny_bind (len_tuple hl (by lia) ?_)
  refine wpAny_bind (m := asInt? (.int items.size (s.toks + 1))) (wpAny_pure ?_)
  try dsimp only
  refine wpAny_bind (wpAny_field (s := { s with toks := s.toks + 1 + 1 }) ho hd (x := rawInt ((items.size : Int) - 1)) rfl ?_)
  dsimp only [rawInt]
  refine wpAny_ite_split (fun hab => absurd hab (by lia)) (fun _ => ?_)
  refine wpAny_bind (wpAny_mkInt (wpAny_pure ⟨_, rfl, ?_⟩))
  dsimp only
  refine wpAny_bind (m := asInt? (.int ((items.size : Int) - 1 + 1) (s.toks + 1 + 1))) (wpAny_pure ?_)
  dsimp only
  refine wpAny_ite_split (fun hab => absurd hab (by simp [Builtin.List.listFitsIndex]; lia)) (fun _ => ?_)
  refine wpAny_ite_split (fun hab => absurd hab (by lia)) (fun _ => ?_)
  refine wpAny_ite_split (fun hab => absurd hab (by simp [Builtin.List.listTooLong, sizeLine]; lia)) (fun _ => ?_)
  exact wpAny_pure (h _ _)
theorem lr_hint' {i : Int} (hit : s.heap.IsRevIter r l i) (h : ∀ b tk, Q b { s with toks := tk }) : wpAny (model prog w) A (Builtin.List.listLengthHint (.ref r)) Q E s := by
  unfold Builtin.List.listLengthHint
  refine wpAny_bind (wpAny_specialOf hit.typeIs lr_nolen ?_)
  show wpAny _ _ (specialOf (Value.ref r) (Str.ofString "__length_hint__") >>= _) _ _ _
  refine wpAny_bind (wpAny_specialOf hit.typeIs lr_hint ?_)
  (generalize hid : ("list_reverseiterator.__length_hint__" : String) = id0; (fail_if_success (clear hid id0)); wp_delta; rw [show splitId id0 = some ("list_reverseiterator", "__length_hint__") from by subst hid; decide +kernel]; subst hid)
  refine wpAny_bind (wpAny_isInstance (b := true) hit.typeIs (by rw [isSubtype_type]; kernel_rfl) ?_)
  exact wpAny_pure (h _ _)
end
section
variable {cx : Cx} {fs : List Env} {ρ : RM} {σ : Store} {s : Shared}
/-- a named object has turned, others were added -/
theorem RelC.mutK (R : RelC cx fs ρ σ s) {n : Nat} {a : Addr} {ao : AO} {h' : Heap} {t : Nat} (hn : ρ n = some a) (hnl : n < 1000) (hs : ∀ b o, b ≠ a → s.heap.get? b = some o → h'.get? b = some o) (r : ORep cx.w ρ h' ao a) :
    RelC cx fs ρ (upd σ n ao) { s with heap := h', toks := t } ∧ Ext allN noS ρ s.heap ρ h' := by
  have X : Ext allN noS ρ s.heap ρ h' := ⟨fun _ _ _ e => e, fun _ _ e => .inl e, fun b o e q _ => hs b o (fun z => q n hnl (z ▸ hn)) e, fun b o e => by
    by_cases z : b = a
    · obtain ⟨ob, q, _⟩ := r.cls
      exact ⟨ob, z ▸ q⟩
    · exact ⟨o, hs b o z e⟩⟩
  have C := X.carry0 R
  have D := R.st n a hnl hn
  refine ⟨⟨fun b o e => hs b o (fun z => ?_) (R.base b o e), fun k b hkl e => ?_, fun k b hkl e => ?_, fun k e => ?_, R.inj, ff_on R.ff fun e he b o hb q d => ⟨o, hs b o (fun z => D.2.1 e he (z ▸ hb)) q, d⟩, R.gens, R.os⟩, X⟩
  · rw [z, D.1] at e; cases e
  · by_cases q : k = n
    · subst q
      rw [hn] at e; cases e
      rw [upd_self]
      exact ⟨D.1, D.2.1, r⟩
    · obtain ⟨h1, h2, h3⟩ := R.st k b hkl e
      obtain ⟨ob, z, _⟩ := h3.cls
      rw [upd_ne q]
      exact ⟨h1, h2, h3.carry C (fun _ _ _ e => e) ((hs b ob (fun z => q (R.inj k n b e (z ▸ hn))) z).trans z.symm)⟩
  · obtain ⟨o', z, r⟩ := R.hi k b hkl e
    exact ⟨o', hs b o' (fun w => absurd hnl (Nat.not_lt.mpr (R.inj k n b e (w ▸ hn) ▸ hkl))) z, r⟩
  · by_cases q : k = n
    · subst q; rw [hn] at e; cases e
    · rw [upd_ne q]; exact R.dom k e
/-- a new object gets a name, others were added -/
theorem RelC.newK (R : RelC cx fs ρ σ s) {a : Addr} {n : Nat} {ao : AO} {h' : Heap} {t : Nat} (hn : σ n = .free) (hnl : n < 1000) (ha : s.heap.get? a = none) (hs : ∀ b o, s.heap.get? b = some o → h'.get? b = some o) (r : ORep cx.w (setR ρ n a) h' ao a) :
    RelC cx fs (setR ρ n a) (upd σ n ao) { s with heap := h', toks := t } ∧ Ext allN noS ρ s.heap (setR ρ n a) h' := by
  have hr := R.free hn hnl
  have X : Ext allN noS ρ s.heap (setR ρ n a) h' := by
    refine ⟨fun k b _ e => ?_, fun k b e => ?_, fun b o' e _ _ => hs _ _ e, fun b o' e => ⟨o', hs _ _ e⟩⟩
    · by_cases q : k = n
      · subst q; rw [hr] at e; cases e
      · rw [setR_ne q]; exact e
    · by_cases q : k = n
      · subst q; rw [setR_self] at e; cases e; exact .inr ha
      · rw [setR_ne q] at e; exact .inl e
  have C := X.carry0 R
  have no : ∀ k, ρ k ≠ some a := fun k e => by
    obtain ⟨ob, q⟩ := R.there e
    rw [ha] at q; cases q
  refine ⟨⟨fun b o' e => hs _ _ (R.base b o' e), fun k b hkl e => ?_, fun k b hkl e => ?_, fun k e => ?_, fun k j b e1 e2 => ?_, ff_on R.ff fun e _ b o' _ q d => ⟨o', hs _ _ q, d⟩, R.gens, R.os⟩, X⟩
  · by_cases q : k = n
    · subst q
      rw [setR_self] at e; cases e
      rw [upd_self]
      refine ⟨?_, fun ev he z => ?_, r⟩
      · cases q : cx.base.get? a with
        | none => rfl
        | some o' => rw [R.base _ _ q] at ha; cases ha
      · obtain ⟨L, ob, e1, e2⟩ := funFrames_in R.ff ev he
        rw [e1] at z; cases z
        rw [ha] at e2; cases e2
    · rw [setR_ne q] at e
      obtain ⟨h1, h2, h3⟩ := R.st k b hkl e
      obtain ⟨ob, z, _⟩ := h3.cls
      rw [upd_ne q]
      exact ⟨h1, h2, h3.carry C (fun j b _ e => X.le j b trivial e) ((hs _ _ z).trans z.symm)⟩
  · have q : k ≠ n := fun z => absurd hnl (Nat.not_lt.mpr (z ▸ hkl))
    rw [setR_ne q] at e
    obtain ⟨o', z, r⟩ := R.hi k b hkl e
    exact ⟨o', hs _ _ z, r⟩
  · by_cases q : k = n
    · subst q; rw [setR_self] at e; cases e
    · rw [setR_ne q] at e; rw [upd_ne q]; exact R.dom k e
  · by_cases q : k = n <;> by_cases q' : j = n
    · rw [q, q']
    · subst q
      rw [setR_self] at e1; cases e1
      rw [setR_ne q'] at e2
      exact absurd e2 (no j)
    · subst q'
      rw [setR_self] at e2; cases e2
      rw [setR_ne q] at e1
      exact absurd e1 (no k)
    · rw [setR_ne q] at e1; rw [setR_ne q'] at e2
      exact R.inj k j b e1 e2
end
section
variable {cx : Cx} {fx : Fx} {E : Value → Shared → Prop} {d : Nat} {m : Locals} {σ : Store} {ρ : RM} {s : Shared}
theorem callWF {pos : Pos} {f : Value} {first : List Value} {es : List Expr} {P : Value → Shared → Prop} (hf : (∃ T, f = .type T) ∨ (∃ i, f = .builtin i)) {A : Around} (hp : Plain fx pos es)
    (fin : wpAny (model PW cx.w) A (spliced (backTo pos (starEach es fx.env))) (fun vs s₁ => wpAny (model PW cx.w) A (call f (first ++ vs) []) P E s₁) E s) :
    wpAny (model PW cx.w) A (callWith pos f first (backTo pos (starEach es fx.env)) []) P E s := by
  have args : wpAny (model PW cx.w) A (evalArgs f true (backTo pos (starEach es fx.env)) []) (fun a s₁ => wpAny (model PW cx.w) A (call f (first ++ a.pos) a.kw) P E s₁) E s := by
    unfold Plain at hp
    revert hp fin
    cases backTo pos (starEach es fx.env) with
    | nil => intro _ fin; exact evalArgs_sp0 fin
    | cons p rest =>
      obtain ⟨b, t⟩ := p
      intro hp fin
      rw [List.any_cons] at hp
      obtain rfl : b = false := (Bool.or_eq_false_iff.mp hp).1
      exact evalArgs_plain fin
  unfold callWith
  refine wpAny_bind (wpAny_holding (wpAny_mono args (fun a s₁ h₁ => wpAny_bind (wpAny_standAt ?_)) fun _ _ x => x))
  rw [show (backTo pos (starEach es fx.env)).any (·.1) = false from hp]
  rcases hf with ⟨T, rfl⟩ | ⟨i, rfl⟩
  · refine wpAny_bind (wpAny_pure ?_)
    exact wpAny_bind (wpAny_mono h₁ (fun r s₂ hr => wpAny_bind (wpAny_holding (wpAny_point (wpAny_pure hr)))) fun _ _ x => x)
  · refine wpAny_bind (wpAny_pure ?_)
    exact wpAny_bind (wpAny_mono h₁ (fun r s₂ hr => wpAny_bind (wpAny_holding (wpAny_point (wpAny_pure hr)))) fun _ _ x => x)
/-- what was taken from a walk backwards -/
theorem rev_items {vs : Array Value} {acc : Array Value} (h : ItemsOf (fun i v => vs[vs.size - 1 - i]? = some v) acc vs.size) : acc.toList = vs.toList.reverse := by
  obtain ⟨h1, h2⟩ := h
  apply List.ext_getElem?
  intro i
  by_cases hi : i < vs.size
  · have e : acc[i]? = some (acc[i]'(by lia)) := Array.getElem?_eq_getElem (by lia)
    have := h2 i _ e
    rw [List.getElem?_reverse (by simpa using hi)]
    rw [Array.getElem?_toList, Array.getElem?_toList, e, Array.length_toList, this]
  · rw [List.getElem?_eq_none (by simp; lia), List.getElem?_eq_none (by simp; lia)]
/-- xs.extend(reversed(tuple)) -/
theorem T_extRev {o e : Expr} {ap np rp pos : Pos} {Q : LV → Store → Prop} (ok' : CxOk cx) (hd : 0 < d)
    (h : TE cx fx E d o m σ (fun l σ₁ => ∃ n xs, l = .loc n ∧ σ₁ n = .list xs ∧ n < 1000 ∧ TE cx fx E d e m σ₁ (fun l₂ σ₂ => ∃ ys, l₂ = .dat (.tuple ys) ∧ σ₂ n = .list xs ∧ xs.length + ys.length ≤ 100000 ∧ ys.length ≤ 1000 ∧ Q (.dat .none) (upd σ₂ n (.list (xs ++ ys.reverse))))))
    (hp : Plain fx pos [.Call (.Name "reversed" np) [e] [] rp] := by rfl) (hp' : Plain fx rp [e] := by rfl) (hes : ∃ b t r, backTo rp (starEach [e] fx.env) = (b, t) :: r := by exact ⟨_, _, _, rfl⟩) (hk : fx.cs.kind = .function := by rfl) (hx : fx.env.kindOf "reversed" = some .globalImplicit := by rfl)
    (hse : starEach [e] fx.env = (false, eval e fx.env) :: starEach [] fx.env := by rfl)
    (hsr : backTo pos (starEach [.Call (.Name "reversed" np) [e] [] rp] fx.env) = [(false, eval (.Call (.Name "reversed" np) [e] [] rp) fx.env)] := by rfl)
    (he : eval (.Call (.Attribute o "extend" ap) [.Call (.Name "reversed" np) [e] [] rp] [] pos) fx.env = (do
      let ov ← eval o fx.env
      standAt ap.atName
      let (f, first) ← holding [ov] (getMethod ov "extend" (do return (← importBound o fx.env).getD true))
      callWith pos f first (backTo pos (starEach [.Call (.Name "reversed" np) [e] [] rp] fx.env)) (backToKw pos (keywordEach [] fx.env))) := by rfl) : TE cx fx E d (.Call (.Attribute o "extend" ap) [.Call (.Name "reversed" np) [e] [] rp] [] pos) m σ Q := fun A ρ s ok R =>
  methodCall_KW (wpAny_mono (h A ρ s ok R) (fun v s₁ ⟨l, σ₁, ρ₁, X₁, R₁, r₁, n, xs, hl, hk', hlt, h₁⟩ => by
    subst hl
    obtain ⟨a, ea, vs₀, k₀, g₀, D₀⟩ := named R₁ hk' (hl := hlt)
    obtain rfl := locEq ea r₁
    refine getMethod_builtin (T := "list") ⟨_, g₀, rfl⟩ PySem.F.plainAttrs_list PySem.F.slot_list_extend PySem.F.type_list_extend (fun b q => by cases q; exact ⟨_, g₀, rfl⟩) ?_
    refine callWF (.inr ⟨_, rfl⟩) hp ?_
    rw [hsr]
    refine spliced_cons (T_evalB ok' (g_reversed _) b_reversed (by decide +kernel) ok R₁ (Ts_cons (h₁.mono fun l₂ σ₂ ⟨ys, el, hn₂, hz, hz', q⟩ => Ts_nil ?_) hse) hes hp' hk hx (by decide +kernel))
    subst el
    intro ρ₂ s₂ vs X₂ R₂ r₂
    cases r₂ with
    | cons r r₂ =>
    cases r₂
    obtain ⟨t, items, rfl, ht, D⟩ := of_tup r
    have lenD : items.size = ys.length := by simpa using D.length.symm
    have ea₂ := X₂.le _ _ trivial ea
    obtain ⟨a', ea', us, k, g, Du⟩ := named R₂ hn₂ (hl := hlt)
    rw [ea₂] at ea'; cases ea'
    have lenU := Du.length
    refine call_reversed_tuple ht (by lia) (spliced_nil ?_)
    have hI : s₂.heap.get? s₂.heap.objs.size = none := Heap.get?_none_of_le (Nat.le_refl _)
    have hlt' : t < s₂.heap.objs.size := let ⟨_, e, _⟩ := ht; Heap.lt_size e
    have hta : t ≠ a := fun q => by
      obtain ⟨ot, e, c, _⟩ := ht
      rw [q, g] at e; cases e; exact absurd c (by simp)
    have hA : A.handled = none := ok.handled.resolve_left (by lia)
    have W := rv_walks (prog := PW) (w := cx.w) (A := A.in1) hA s₂.heap.objs.size t (Nat.ne_of_lt hlt') items (by lia)
    have g' : (s₂.heap.push (rvObj t ((items.size : Int) - 1))).get? a = some (lsObj us k) := Heap.get?_push_of_some _ g
    have st : (0 : Nat) ≤ items.size ∧ IsRv (s₂.heap.push (rvObj t ((items.size : Int) - 1))) s₂.heap.objs.size t ((items.size : Int) - 1 - ((0 : Nat) : Int)) ∧ IsTup (s₂.heap.push (rvObj t ((items.size : Int) - 1))) t items :=
      ⟨Nat.zero_le _, ⟨_, Heap.get?_push_size _ rfl, rfl, by show Data.fields #[.ref t, rawInt ((items.size : Int) - 1)] = _; simp⟩, tupAt ht fun o e => Heap.get?_push_of_some _ e⟩
    refine wpAny_call (codeAny_call_builtin PySem.F.slot_list_extend.plain PySem.F.entry_list_extend (PySem.F.slot_list_extend.check _ _ _ _ _ _ _ _ ⟨_, g', rfl⟩ (PySem.F.args_list_extend_2 _ _) ?_))
    show wpAny _ _ (Builtin.List.listExtendWith (.ref a) (.ref s₂.heap.objs.size) .none) _ _ _
    refine ext_with (R := wants (VP cx fx ρ m s Q) E) (s := { s₂ with heap := s₂.heap.push (rvObj t ((items.size : Int) - 1)), toks := s₂.toks + 1 + 1 }) W (.head _) (fun s x => x.2.1.typeIs) (by decide) (by decide) (fun s Q E x hq => rv_hint (by simpa using x.2.1) x.2.2 (by lia) hq) a ?_ us.toArray k (by rw [List.size_toArray]; have : sizeLine = sizeLine := rfl; show us.length + items.size + 1 ≤ sizeLine; rw [sizeLine_eq]; lia) .none st g' fun h' tk acc' c' kk hS' hacc => ?_
    · intro q
      rcases List.mem_cons.mp q with q | q
      · rw [q, hI] at g; cases g
      · exact hta (List.mem_singleton.mp q).symm
    have er := rev_items hacc
    have kold : ∀ b o, b ≠ a → s₂.heap.get? b = some o → h'.get? b = some o := fun b o hb e => kk b o (fun q => by
      rcases List.mem_cons.mp q with q | q
      · exact hb q
      · rw [List.mem_singleton.mp q, hI] at e; cases e) (Heap.get?_push_of_some _ e)
    have X₃ : Ext allN noS ρ₂ s₂.heap ρ₂ h' := ⟨fun _ _ _ e => e, fun _ _ e => .inl e, fun b o e q _ => kold b o (fun z => q n hlt (z ▸ ea₂)) e, fun b o e => by
      by_cases z : b = a
      · exact ⟨_, z ▸ hS'⟩
      · exact ⟨o, kold b o z e⟩⟩
    have C₃ := X₃.carry0 R₂.toRelC
    have rep : ORep cx.w ρ₂ h' (.list (xs ++ ys.reverse)) a := by
      refine ⟨us ++ items.toList.reverse, c', ?_, ((Du.app D.reverse).carry C₃)⟩
      rw [hS']
      have : us.toArray ++ acc' = (us ++ items.toList.reverse).toArray := by
        apply Array.toList_inj.mp
        simp [er]
      rw [this]
    obtain ⟨R₄, X₄⟩ := R₂.toRelC.mutK (t := tk) ea₂ hlt kold rep
    exact VP.up X₁ ⟨.dat .none, _, ρ₂, X₂.trans X₄, R₂.next R₄ X₄, dNoneH, q⟩) fun _ _ x => x) he
end
section
variable {prog : Program} {w : World} {A : Around} {E : Value → Shared → Prop} {s : Shared} {I : Addr} {fp wr : List Addr} {n : Nat} {P : Nat → Value → Prop} {St : Nat → Heap → Prop}
theorem list_of {T : String} {Q : Value → Shared → Prop} (W : Walks prog w A.in1.in1 I fp wr n P St) (hI : I ∈ fp) (hT : ∀ s : Shared, St 0 s.heap → s.TypeIs (.ref I) T) (notList : (Value.type T == Value.type "list") = false) (notTuple : (Value.type T == Value.type "tuple") = false)
    (hint : ∀ (A : Around) (s : Shared) (Q : Bool → Shared → Prop) (E : Value → Shared → Prop), St 0 s.heap → (∀ b tk, Q b { s with toks := tk }) → wpAny (model prog w) A (Builtin.List.listLengthHint (.ref I)) Q E s)
    (hz : n + 1 ≤ sizeLine) (hst : St 0 s.heap) (hfp : ∀ b ∈ fp, b < s.heap.objs.size)
    (hQ : ∀ h' tk acc' c', (∀ b o, b ∉ wr → s.heap.get? b = some o → h'.get? b = some o) → h'.get? s.heap.objs.size = some { cls := .type "list", dict := none, data := .seq acc' c', slots := #[] } → ItemsOf P acc' n → Q (.ref s.heap.objs.size) { s with heap := h', toks := tk }) :
    wpAny (model prog w) A (call (.type "list") [.ref I]) Q E s := by
  refine callType_codes (Q₁ := fun obj s₁ => obj = .ref s.heap.objs.size ∧ s₁ = { s with heap := s.heap.push { cls := .type "list", data := .seq #[] } }) PySem.F.called_list (PySem.F.typeCall_list_1 _) PySem.F.entry_list_init
    (code_list_new _ ⟨rfl, rfl⟩) fun obj s₁ h₁ => ?_
  obtain ⟨rfl, rfl⟩ := h₁
  have hS : (s.heap.push { cls := .type "list", data := .seq #[] }).get? s.heap.objs.size = some { cls := .type "list", data := .seq #[] } := Heap.get?_push_size _ rfl
  have hSf : s.heap.objs.size ∉ fp := fun hm => Nat.lt_irrefl _ (hfp _ hm)
  refine ⟨⟨_, hS, rfl⟩, PySem.F.args_list_init_2 _ _, ?_⟩
  have hSn : s.heap.get? s.heap.objs.size = none := Heap.get?_none_of_le (Nat.le_refl _)
  generalize s.heap.objs.size = S at *
  show wpAny _ _ (do let old ← Builtin.List.listItems (.ref S); Builtin.List.listUpdate (.ref S) (fun _ => #[]); letGo old.toList.reverse; Builtin.List.listExtendWith (.ref S) (.ref I) .none) _ _ _
  refine wpAny_bind ?_
  unfold Builtin.List.listItems
  refine wpAny_bind (wpAny_seqItems hS rfl (wpAny_pure ?_))
  show wpAny _ _ (updateSeq S (fun _ => #[]) >>= fun _ => letGo (#[] : Array Value).toList.reverse >>= fun _ => Builtin.List.listExtendWith (.ref S) (.ref I) .none) _ _ _
  refine wpAny_bind (wpAny_updateSeq hS rfl ?_)
  have hS₂ := Heap.get?_update_self (Obj.mapSeq (fun _ => (#[] : Array Value))) hS rfl
  have oth : ∀ b o, b ≠ S → s.heap.get? b = some o → ((s.heap.push { cls := .type "list", data := .seq #[] }).update S (Obj.mapSeq (fun _ => (#[] : Array Value)))).get? b = some o :=
    fun b o hb e => (Heap.get?_update_other _ _ (Ne.symm hb)).trans (Heap.get?_push_of_some _ e)
  refine wpAny_bind (wpAny_letGo ?_)
  refine ext_with (A := A.in1) (s := { s with heap := (s.heap.push { cls := .type "list", data := .seq #[] }).update S (Obj.mapSeq (fun _ => (#[] : Array Value))) }) W hI hT notList notTuple (fun s Q E st hq => hint _ s Q E st hq) S hSf #[] _ (by show 0 + n + 1 ≤ _; lia) .none (W.frame 0 _ _ hst fun b hb o e => oth b o (fun h => hSf (h ▸ hb)) e) hS₂ fun h' tk acc' c' k hS' hacc => ?_
  refine ⟨rfl, hQ h' tk acc' c' (fun b o hb e => ?_) (by simpa using hS') hacc⟩
  by_cases hbS : b = S
  · rw [hbS, hSn] at e; cases e
  · exact k b o (fun q => by
      rcases List.mem_cons.mp q with q | q
      · exact hbS q
      · exact hb q) (oth b o hbS e)
end
section
variable {cx : Cx} {fx : Fx} {E : Value → Shared → Prop} {d : Nat} {m : Locals} {σ : Store} {ρ : RM} {s : Shared}
theorem g_list (P : Params) : nsIn (KF P) mainGlobals "list" = some none := by kernel_rfl
theorem b_list : bootBuiltins "list" = some (.type "list") := by kernel_rfl
/-- list(reversed(list)); its list is named n -/
theorem T_listRev (n : Nat) {e : Expr} {lp np rp pos : Pos} {Q : LV → Store → Prop} (ok' : CxOk cx) (hd : 0 < d)
    (h : TE cx fx E d e m σ (fun l σ₁ => ∃ xs, l = .dat (.list xs) ∧ xs.length ≤ 100000 ∧ σ₁ n = .free ∧ Q (.loc n) (upd σ₁ n (.list xs.reverse))))
    (hnl : n < 1000 := by decide) (hp : Plain fx pos [.Call (.Name "reversed" np) [e] [] rp] := by rfl) (hp' : Plain fx rp [e] := by rfl) (hes : ∃ b t r, backTo rp (starEach [e] fx.env) = (b, t) :: r := by exact ⟨_, _, _, rfl⟩) (hk : fx.cs.kind = .function := by rfl) (hx : fx.env.kindOf "reversed" = some .globalImplicit := by rfl)
    (hxl : fx.env.kindOf "list" = some .globalImplicit := by rfl)
    (hse : starEach [e] fx.env = (false, eval e fx.env) :: starEach [] fx.env := by rfl)
    (hsr : backTo pos (starEach [.Call (.Name "reversed" np) [e] [] rp] fx.env) = [(false, eval (.Call (.Name "reversed" np) [e] [] rp) fx.env)] := by rfl) : TE cx fx E d (.Call (.Name "list" lp) [.Call (.Name "reversed" np) [e] [] rp] [] pos) m σ Q := fun A ρ s ok R => by
  refine wpAny_Call_ofName (Name_function_global hk hxl (loadGlobal_builtin (env := fx.env) (ok'.T.g.keeps R.base) (mg_none_of ok'.K ok'.T.g (g_list _)) (ok'.T.b.keeps R.base) ((ok'.T.builtins _ (by decide +kernel)).trans b_list) ?_) (by decide +kernel))
  refine callWF (.inl ⟨_, rfl⟩) hp ?_
  rw [hsr]
  refine spliced_cons (T_evalB ok' (g_reversed _) b_reversed (by decide +kernel) ok R (Ts_cons (h.mono fun l₂ σ₂ ⟨xs, el, hz, hn, q⟩ => Ts_nil ?_) hse) hes hp' hk hx (by decide +kernel))
  subst el
  intro ρ₂ s₂ vs X₂ R₂ r₂
  cases r₂ with
  | cons r r₂ =>
  cases r₂
  obtain ⟨t, items, rfl, ht, D⟩ := of_list r
  have lenD : items.size = xs.length := by simpa using D.length.symm
  refine call_reversed_list ht (spliced_nil ?_)
  have hI : s₂.heap.get? s₂.heap.objs.size = none := Heap.get?_none_of_le (Nat.le_refl _)
  have hlt' : t < s₂.heap.objs.size := let ⟨_, e, _⟩ := ht; Heap.lt_size e
  have hA : A.handled = none := ok.handled.resolve_left (by lia)
  have W := Walks.listRev (prog := PW) (w := cx.w) (A := A.in1.in1) hA s₂.heap.objs.size t (Nat.ne_of_lt hlt') items
  have st : (0 : Nat) ≤ items.size ∧ (s₂.heap.push (revObj t ((items.size : Int) - 1))).IsRevIter s₂.heap.objs.size t ((items.size : Int) - 1 - ((0 : Nat) : Int)) ∧ (s₂.heap.push (revObj t ((items.size : Int) - 1))).IsList t items :=
    ⟨Nat.zero_le _, ⟨_, Heap.get?_push_size _ rfl, rfl, by show Data.fields #[.ref t, rawInt ((items.size : Int) - 1)] = _; simp⟩, let ⟨o, e, r⟩ := ht; ⟨o, Heap.get?_push_of_some _ e, r⟩⟩
  refine list_of (s := { s₂ with heap := s₂.heap.push (revObj t ((items.size : Int) - 1)) }) W (.head _) (fun s x => x.2.1.typeIs) (by decide) (by decide) (fun A s Q E x hq => lr_hint' x.2.1 hq) (by rw [sizeLine_eq]; lia) st ?_ fun h' tk acc' c' kk hS' hacc => ?_
  · intro b hb
    show b < (s₂.heap.push _).objs.size
    rw [Heap.size_push]
    rcases List.mem_cons.mp hb with q | q
    · exact q ▸ Nat.lt_succ_self _
    · exact Nat.lt_succ_of_lt (List.mem_singleton.mp q ▸ hlt')
  have er := rev_items hacc
  have hS0 : s₂.heap.get? (s₂.heap.push (revObj t ((items.size : Int) - 1))).objs.size = none := Heap.get?_none_of_le (by rw [Heap.size_push]; lia)
  have kold : ∀ b o, s₂.heap.get? b = some o → h'.get? b = some o := fun b o e => kk b o (fun q => by
    rw [List.mem_singleton.mp q, hI] at e; cases e) (Heap.get?_push_of_some _ e)
  show VP cx fx ρ m s Q (.ref (s₂.heap.push (revObj t ((items.size : Int) - 1))).objs.size) _
  have hr := R₂.toRelC.free hn hnl
  have C₃ : Carry ρ₂ s₂.heap (setR ρ₂ n (s₂.heap.push (revObj t ((items.size : Int) - 1))).objs.size) h' := by
    refine ⟨fun a o' _ _ e _ _ => ⟨o', kold _ _ e, rfl, rfl⟩, fun a o' _ _ e _ q => ⟨fun k z => ?_, o', kold _ _ e, rfl, rfl⟩⟩
    by_cases w : k = n
    · subst w; rw [setR_self] at z; cases z; rw [hS0] at e; cases e
    · rw [setR_ne w] at z; exact q k z
  obtain ⟨R₄, X₄⟩ := R₂.toRelC.newK (t := tk) (a := (s₂.heap.push (revObj t ((items.size : Int) - 1))).objs.size) (ao := .list xs.reverse) hn hnl hS0 kold ⟨items.toList.reverse, c', by
    rw [hS', ← er], D.reverse.carry C₃⟩
  exact ⟨.loc n, _, _, X₂.trans X₄, R₂.next R₄ X₄, ⟨_, setR_self .., rfl⟩, q⟩
/-- the empty dict, as one or another -/
theorem T_dict0 (n : Nat) (ao : AO) {p : Pos} {Q : LV → Store → Prop} (hao : ao = .sdict [] ∨ ao = .tdict [] ∨ ao = .idict []) (hn : σ n = .free) (q : Q (.loc n) (upd σ n ao)) (hnl : n < 1000 := by decide) : TE cx fx E d (.Dict [] [] p) m σ Q := fun A ρ s _ R =>
  wpAny_Dict_empty (newNamed (ao := ao) R hn hnl rfl (by
    rcases hao with rfl | rfl | rfl
    · exact ⟨[], Heap.DictOf.new _, trivial⟩
    · exact ⟨[], Heap.DictOfH.new _, trivial⟩
    · exact ⟨[], Heap.DictOf.new _, trivial⟩) q)
end
noncomputable def Tm.subs : Tm → List Tm
  | .s1 _ x => [x]
  | .s2 _ x y => [x, y]
  | _ => []
theorem Tm.args_subs (t : Tm) : t.args = t.subs.map Tm.enc := by cases t <;> rfl
theorem Tm.subs_total (t : Tm) : total t.subs < t.size := by
  cases t <;> simp [Tm.subs, total, Tm.size] <;> omega
theorem Tm.subs_len (t : Tm) : t.subs.length ≤ 2 := by cases t <;> simp [Tm.subs]
theorem total_rev : ∀ ts : List Tm, total ts.reverse = total ts
  | [] => rfl
  | t :: r => by
    rw [List.reverse_cons, total_app, total_rev r]
    simp [total]; omega
section
variable {cx : Cx} {σ : Store}
theorem c_variables_of (ok : CxOk cx) (t : Tm) (hz : t.size ≤ 10000) : TC cx 1 (.ref 230) [.dat (.list [t.enc])] σ (fun l σ' => (∃ ks : List Int, l = .dat (.list (ks.map .int)) ∧ ks.length ≤ t.size) ∧ Off [] σ σ') (fun _ => False) := by
  refine TC_fn2 (d := 1) (ls := [.dat (.list [t.enc])]) ok (show _ = some (o230_5 cx.w.params) by kernel_rfl) (by kernel_rfl) ["terms"] ?_ ?_ (by decide) ?_ ?_
  · exact bnd1 fun _ _ => BindsTo.of_eq rfl
  · decide +kernel
  · intro fD fE fK eE kR kN
    refine S_cons <| X_assign <| T_dict0 32 (.idict []) (.inr (.inr rfl)) rfl ?_
    refine S_cons <| X_assign <| T_listN 33 <| Ts_nil ⟨[], rfl, leT tT, rfl, ?_⟩
    refine S_cons <| X_assign <| T_listRev 34 ok (by decide) <| T_name rfl ⟨[t.enc], rfl, leT tT, rfl, ?_⟩
    refine S_cons <| X_while (.exE eE) (fun n m τ => ∃ us ks D, n = total us ∧ total us ≤ t.size ∧ ks.length + total us ≤ t.size ∧ D.length + total us ≤ t.size ∧ lk m "seen" = some (.loc 32) ∧ lk m "result" = some (.loc 33) ∧ lk m "todo" = some (.loc 34) ∧ τ 32 = .idict D ∧ τ 33 = .list (ks.map PyData.int) ∧ τ 34 = .list (us.map Tm.enc) ∧ Off [] σ τ) (total [t]) ⟨[t], [], [], rfl, ?_, ?_, ?_, rfl, rfl, rfl, rfl, rfl, rfl, ((Off.low.upd (by exact tT)).upd (by exact tT)).upd (by exact tT)⟩ ?_
    · show t.size + 0 ≤ t.size
      omega
    · show 0 + (t.size + 0) ≤ t.size
      omega
    · show 0 + (t.size + 0) ≤ t.size
      omega
    · intro n m τ j
      obtain ⟨us, ks, D, j⟩ := j
      refine and11 j fun j0 h1 h2 h3 e1 e2 e3 i32 i33 i34 o => ?_
      clear j
      subst j0
      have hul := total_len us
      refine TT_plain <| T_name e3 <| OT_list i34 (by rw [List.length_map]; omega) ⟨fun hc => ?_, fun hc => ?_⟩
      · obtain ⟨vs, u, rfl⟩ : ∃ vs u, us = vs ++ [u] := ⟨_, _, (List.dropLast_concat_getLast (by rintro rfl; cases hc)).symm⟩
        have htot : total (vs ++ [u]) = total vs + u.size := by rw [total_app]; simp [total]
        have hpos := u.size_pos
        have hvl := total_len vs
        refine S_cons <| X_assign <| T_methB PySem.F.plainAttrs_list PySem.F.slot_list_pop PySem.F.type_list_pop <| T_name e3 ⟨34, rfl, by rw [i34]; rfl, by decide, Ts_nil <| OC_pop (n := 34) (xs := vs.map Tm.enc) (x := u.enc) (by rw [i34, List.map_append]; rfl) (by rw [List.length_map]; omega) ?_⟩
        have f1 := (lkp_ne (x := "term") (v := LV.dat u.enc) rfl).trans e1
        have f2 := (lkp_ne (x := "term") (v := LV.dat u.enc) rfl).trans e2
        have f3 := (lkp_ne (x := "term") (v := LV.dat u.enc) rfl).trans e3
        have f4 : lk (putl m "term" (.dat u.enc)) "term" = some (.dat u.enc) := lkp_same rfl
        show TS _ _ _ _ _ (putl m "term" (.dat u.enc)) _ _
        generalize putl m "term" (.dat u.enc) = m at f1 f2 f3 f4
        have o₁ := o.upd (n := 34) (o := .list (vs.map Tm.enc)) (by exact tT)
        refine S_cons <| X_if <| TT_tagIs f4 ⟨fun hv => ?_, fun hv => ?_⟩
        · refine S_cons <| X_if <| TT_cmp <| T_num <| T_name f4 ⟨u, rfl, T_name f1 <| O_notinI ok (n := 32) i32 ⟨_, rfl, fun hn => ?_, fun hn => ?_⟩⟩
          · have hnone : dget D u.num = none := by
              cases q : dget D u.num with
              | none => rfl
              | some b => rw [q] at hn; cases hn
            refine S_cons <| X_sub <| T_cbool <| T_name f1 <| T_num <| T_name f4 ⟨u, rfl, OU_I (n := 32) i32 hnone (by omega) ?_⟩
            refine S_cons <| X_expr <| T_methB PySem.F.plainAttrs_list PySem.F.slot_list_append PySem.F.type_list_append <| T_name f2 ⟨33, rfl, by rw [show upd (upd τ 34 _) 32 _ 33 = τ 33 from rfl, i33]; rfl, by decide, Ts_cons <| T_num <| T_name f4 ⟨u, rfl, Ts_nil <| OC_append (n := 33) (xs := ks.map .int) i33 (by rw [List.length_map]; omega) ⟨rfl, ?_⟩⟩⟩
            refine S_nil <| S_nil <| S_nil ⟨total vs, by omega, vs, ks ++ [u.num], D ++ [(u.num, true)], rfl, by omega, ?_, ?_, f1, f2, f3, rfl, ?_, rfl, (o₁.upd (by exact tT)).upd (by exact tT)⟩
            · rw [List.length_append]; simp; omega
            · rw [List.length_append]; simp; omega
            · show AO.list _ = AO.list _
              rw [List.map_append]; rfl
          · exact S_nil <| S_nil <| S_nil ⟨total vs, by omega, vs, ks, D, rfl, by omega, by omega, by omega, f1, f2, f3, i32, i33, rfl, o₁⟩
        · refine S_cons <| X_if <| TT_tagIs f4 ⟨fun hs => ?_, fun hs => ?_⟩
          · have hsl := u.subs_len
            have hst := u.subs_total
            refine S_cons <| X_expr <| T_extRev ok (by decide) <| T_name f3 ⟨34, vs.map Tm.enc, rfl, rfl, by decide, T_args <| T_name f4 ⟨u, rfl, hs, u.args, rfl, rfl, ?_, ?_, ?_⟩⟩
            · rw [u.args_subs, List.length_map, List.length_map]; omega
            · rw [u.args_subs, List.length_map]; omega
            · have htot' : total (vs ++ u.subs.reverse) = total vs + total u.subs := by rw [total_app, total_rev]
              refine ⟨rfl, S_nil <| S_nil <| S_nil ?_⟩
              refine ⟨total (vs ++ u.subs.reverse), by omega, vs ++ u.subs.reverse, ks, D, rfl, by omega, by omega, by omega, f1, f2, f3, i32, i33, ?_, o₁.upd (by exact tT)⟩
              show AO.list _ = AO.list _
              rw [u.args_subs, List.map_append, List.map_reverse]
          · exact S_nil <| S_nil <| S_nil ⟨total vs, by omega, vs, ks, D, rfl, by omega, by omega, by omega, f1, f2, f3, i32, i33, rfl, o₁⟩
      · refine S_freeze 33 i33 <| S_cons <| X_retK kR <| T_name (lk_thaw e2) ⟨datLow _, ⟨ks, rfl, by omega⟩, o.upd (by exact tT)⟩
  · decide +kernel
theorem c_variables (ok : CxOk cx) (t : Tm) (hz : t.size ≤ 10000) : TC cx 2 (.ref 223) [.dat t.enc] σ (fun l σ' => (∃ ks : List Int, l = .dat (.list (ks.map .int)) ∧ ks.length ≤ t.size) ∧ Off [] σ σ') (fun _ => False) := by
  refine TC_fn2 (d := 2) (ls := [.dat t.enc]) ok (show _ = some (o223_5 cx.w.params) by kernel_rfl) (by kernel_rfl) ["term"] ?_ ?_ (by decide) ?_ ?_
  · exact bnd1 fun _ _ => BindsTo.of_eq rfl
  · decide +kernel
  · intro fD fE fK eE kR kN
    refine S_cons <| X_retK kR <| T_def (a := 230) ok (by kernel_rfl) (by kernel_rfl) <| Ts_cons <| T_list <| Ts_cons <| T_name rfl <| Ts_nil ⟨[t.enc], rfl, leT tT, Ts_nil <| OC_of (c_variables_of ok t hz) (lowOk (by exact tT)) .never fun l σ' ll ⟨⟨ks, hl, hk⟩, ho⟩ => ⟨ll, ⟨ks, hl, hk⟩, Off.low.mix ho⟩⟩
  · decide +kernel
theorem c_gvInit (ok : CxOk cx) (ks : List Int) (h1 : σ 9 = .inst 325 10) (h2 : σ 10 = .ns []) : TC cx 0 (.ref 315) [.loc 9, .loc 7, .dat (.list (ks.map .int))] σ (fun l σ' => l = .dat .none ∧ GvAt σ' ks ∧ Off [10] σ σ') (fun _ => False) := by
  refine TC_fn2 (d := 0) (ls := [.loc 9, .loc 7, .dat (.list (ks.map .int))]) ok (show _ = some (o315_7 cx.w.params) by kernel_rfl) (by kernel_rfl) ["self", "fresh", "used"] ?_ ?_ (by decide) ?_ ?_
  · exact bnd3 fun _ _ _ _ => BindsTo.of_eq rfl
  · decide +kernel
  · intro fD fE fK eE kR kN
    have fs : ∀ n, n = ("fresh" : Str) ∨ n = "used" → FS cx.w 325 n := by
      rintro n (rfl | rfl) <;> exact ⟨by kernel_rfl, by kernel_rfl, by kernel_rfl, by kernel_rfl⟩
    refine S_cons <| X_setattr ok <| T_name rfl <| T_name rfl ⟨9, 325, 10, _, rfl, by decide, h1, h2, by simp, fs _ (.inl rfl), ?_, ?_⟩
    · intro n e; cases e; decide
    refine S_cons <| X_setattr ok <| T_name rfl <| T_name rfl ⟨9, 325, 10, _, rfl, by decide, h1, rfl, by simp [putl], fs _ (.inr rfl), ?_, S_nil (kN _ _ ⟨rfl, ⟨h1, rfl⟩, ?_⟩)⟩
    · intro n e; cases e
    · exact (Off.low.upd (by exact tT)).upd (by exact tT)
  · decide +kernel
theorem c_frInit (ok : CxOk cx) (k : Int) (h1 : σ 7 = .inst 290 8) (h2 : σ 8 = .ns []) : TC cx 0 (.ref 280) [.loc 7, .dat (.int k)] σ (fun l σ' => l = .dat .none ∧ FrAt σ' k ∧ Off [8] σ σ') (fun _ => False) := by
  refine TC_fn2 (d := 0) (ls := [.loc 7, .dat (.int k)]) ok (show _ = some (o280_6 cx.w.params) by kernel_rfl) (by kernel_rfl) ["self", "first"] ?_ ?_ (by decide) ?_ ?_
  · intro s vs hb
    revert vs
    exact bndc fun _ => bndc fun _ => bndn (BindsTo.of_defaults rfl (hb _ _ (ok.K _ _ (show _ = some (o273_6 cx.w.params) by kernel_rfl))) rfl rfl rfl)
  · decide +kernel
  · intro fD fE fK eE kR kN
    refine S_cons <| X_setattr ok <| T_name rfl <| T_name rfl ⟨7, 290, 8, _, rfl, by decide, h1, h2, by simp, ⟨by kernel_rfl, by kernel_rfl, by kernel_rfl, by kernel_rfl⟩, ?_, S_nil (kN _ _ ⟨rfl, ⟨h1, rfl⟩, Off.low.upd (by exact tT)⟩)⟩
    intro n e; cases e
  · decide +kernel
end
noncomputable def trFault (S : Sy) (head : Tm) (pushed : Option Tm) (body : Tm) : Option Flt := match head with
  | .var _ => some .inst
  | .int k => some (.callable (.int k))
  | _ => (partFault S body).or (pushed.bind listFault)
noncomputable def leftOf (head : Tm) : Option Tm → Tm
  | none => head
  | some p => .s2 1 head p
noncomputable def optEnc : Option Tm → PyData
  | none => .none
  | some p => p.enc
theorem trFault_c {S : Sy} {head : Tm} {pushed : Option Tm} {body : Tm} (h : (sb head.tag "a" || sb head.tag "s") = true) : trFault S head pushed body = (partFault S body).or (pushed.bind listFault) := by
  cases head <;> first | rfl | exact absurd h Bool.false_ne_true
theorem var_ne (q : Int) : (Tm.var q).enc ≠ .none := by simp [Tm.enc]
section
variable {cx : Cx} {σ : Store}
set_option maxHeartbeats 1000000 in
theorem c_translate (ok : CxOk cx) {S : Sy} {k : Int} (hS : SymAt σ S) (hB : Base S) (hz : S.size ≤ 20000) (hfr : FrAt σ k) (hfree : ∀ n, 9 ≤ n → n ≤ 16 → σ n = .free) (head : Tm) (pushed : Option Tm) (body : Tm) (hh : Ok S head) (hnc : sb head.tag "s" = true → head.num ≠ 1) (hhz : head.size ≤ 300)
    (hb : Ok S body) (hbz : body.size ≤ 300) (hp : ∀ p, pushed = some p → Ok S p ∧ Leaf p.end_ ∧ p.size ≤ 300) :
    TC cx 8 (.ref 336) [.loc 1, .dat (Tm.s2 8 (leftOf head pushed) body).enc, .loc 7] σ (fun l _ => trFault S head pushed body = none ∧ ∃ x, l = .dat (.tuple [.str "s", .int 5, x])) (fun z => ∃ F S', Le 2000 S S' ∧ trFault S head pushed body = some F ∧ z = F.ball S') := by
  have htz : (Tm.s2 8 (leftOf head pushed) body).size ≤ 1000 := by
    cases pushed with
    | none => show head.size + body.size + 1 ≤ 1000; omega
    | some p => have := (hp p rfl).2.2; show head.size + p.size + 1 + body.size + 1 ≤ 1000; omega
  refine TC_fn2 (d := 8) (ls := [.loc 1, .dat (Tm.s2 8 (leftOf head pushed) body).enc, .loc 7]) ok (show _ = some (o336_7 cx.w.params) by kernel_rfl) (by kernel_rfl) ["symbols", "term", "fresh"] ?_ ?_ (by decide) ?_ ?_
  · exact bnd3 fun _ _ _ _ => BindsTo.of_eq rfl
  · decide +kernel
  · intro fD fE fK eE kR kN
    have fr : ∀ n, 9 ≤ n → n ≤ 16 → low σ n = .free := fun n h1 h2 => (low_lt (by omega)).trans (hfree n h1 h2)
    refine S_cons <| X_if <| TT_or <| TT_cmp <| T_tag <| T_name rfl ⟨Tm.s2 8 (leftOf head pushed) body, rfl, T_cstr <| O_nes ⟨_, rfl, fun h => TT_or <| TT_cmp <| T_num <| T_name rfl ⟨Tm.s2 8 (leftOf head pushed) body, rfl, T_num_ 8 ok <| O_nei ⟨_, rfl, fun h => TT_or0 ⟨fun h => absurd h (by decide), fun _ => S_nil ?_⟩, fun h => absurd h (by show ¬ ((8 : Int) != 8) = true; decide)⟩⟩, fun h => absurd h (by show ¬ (!sb "s" "s") = true; decide +kernel)⟩⟩
    refine S_cons <| X_assign <| T_def (a := 325) ok (by kernel_rfl) (by kernel_rfl) <| Ts_cons <| T_name rfl <| Ts_cons <| T_def (a := 223) ok (by kernel_rfl) (by kernel_rfl) <| Ts_cons <| T_name (l := .dat (Tm.s2 8 (leftOf head pushed) body).enc) rfl <| Ts_nil <| OC_of (c_variables ok (Tm.s2 8 (leftOf head pushed) body) (by omega)) (lowOk (by exact tT)) .never fun l σ₁ ll ⟨⟨ks, hl, hkl⟩, ho₁⟩ => ?_
    subst hl
    have o₁ : Off [] (low σ) (mix σ₁ (low σ)) := Off.refl.mix ho₁
    have o₁' : Off [3, 4, 5, 6, 8, 9, 10, 11, 12, 13, 14] σ (mix σ₁ (low σ)) := Off.low.trans (o₁.mono (by exact tT))
    have hS₁ : SymAt (mix σ₁ (low σ)) S := hS.low.off o₁ (by exact tT)
    have hf₁ : FrAt (mix σ₁ (low σ)) k := hfr.low.off o₁ (by exact tT) (by exact tT)
    have fr₁ : ∀ n, 9 ≤ n → n ≤ 16 → mix σ₁ (low σ) n = .free := fun n h1 h2 => (o₁ n (by omega) (by simp)).trans (fr n h1 h2)
    generalize mix σ₁ (low σ) = τ at *
    refine Ts_nil <| OC_new (d := 6) (n := 9) (k := 10) ok ⟨by kernel_rfl, by kernel_rfl, by kernel_rfl⟩ (fr₁ 9 (by decide) (by decide)) (fr₁ 10 (by decide) (by decide)) (lowOk (by exact tT))
      ((c_gvInit ok ks (by rfl) (by rfl)).mono (Nat.zero_le 6) (fun _ _ q => q) fun _ h => h) fun l σ₂ ⟨hl, hg, ho₂⟩ => ⟨hl, ?_⟩
    have o₂ : Off [9, 10] τ (mix σ₂ (upd (upd τ 10 (.ns [])) 9 (.inst 325 10))) := ((Off.refl.upd (by exact tT)).upd (by exact tT)).mix (ho₂.mono (by exact tT))
    have o₂' := o₁'.trans (o₂.mono (M := [3, 4, 5, 6, 8, 9, 10, 11, 12, 13, 14]) (by exact tT))
    have hS₂ := hS₁.off o₂ (by exact tT)
    have hf₂ := hf₁.off o₂ (by exact tT) (by exact tT)
    have hg₂ : GvAt (mix σ₂ (upd (upd τ 10 (.ns [])) 9 (.inst 325 10))) ks := hg.mix
    have fr₂ : ∀ n, 11 ≤ n → n ≤ 16 → mix σ₂ (upd (upd τ 10 (.ns [])) 9 (.inst 325 10)) n = .free := fun n h1 h2 => (o₂ n (by omega) (by simp; omega)).trans (fr₁ n (by omega) h2)
    generalize mix σ₂ (upd (upd τ 10 (.ns [])) 9 (.inst 325 10)) = τ₂ at *
    refine S_cons <| X_unpack (names := [("head", _), ("body", _)]) (by decide) (T_args <| T_name rfl ⟨Tm.s2 8 (leftOf head pushed) body, rfl, rfl, [(leftOf head pushed).enc, body.enc], rfl, rfl, ?_⟩) (by intro x hx; simp only [List.mem_cons, List.not_mem_nil, or_false] at hx; rcases hx with rfl | rfl <;> rfl)
    refine S_cons <| X_assign <| T_cnone ?_
    refine S_cons (TX.mono (Q := fun fl m' τ' => fl = .next ∧ τ' = τ₂ ∧ lk m' "symbols" = some (.loc 1) ∧ lk m' "new" = some (.loc 9) ∧ lk m' "head" = some (.dat head.enc) ∧ lk m' "body" = some (.dat body.enc) ∧ lk m' "pushback" = some (.dat (optEnc pushed))) ?_ ?_)
    · cases pushed with
      | none =>
        refine X_if <| TT.mono (Q := fun c τ' => τ' = τ₂ ∧ c = false) (TT_and <| TT_tagIs (t := head) rfl ⟨fun hs => TT_and <| TT_cmp <| T_num <| T_name (l := .dat head.enc) rfl ⟨head, rfl, T_num_ 1 ok <| O_eqi ⟨_, rfl, fun h => absurd (show head.num = 1 by simpa using h) (hnc hs), fun h => ⟨rfl, rfl⟩⟩⟩, fun hs => ⟨rfl, rfl⟩⟩) ?_
        rintro c τ' ⟨rfl, rfl⟩
        exact ⟨fun h => (by cases h), fun _ => S_nil ⟨rfl, rfl, rfl, rfl, rfl, rfl, rfl⟩⟩
      | some p =>
        refine X_if <| TT_and <| TT_tagIs (t := .s2 1 head p) rfl ⟨fun hs => TT_and <| TT_cmp <| T_num <| T_name (l := .dat (Tm.s2 1 head p).enc) rfl ⟨.s2 1 head p, rfl, T_num_ 1 ok <| O_eqi ⟨_, rfl, fun h => TT_and0 ⟨fun _ => ?_, fun h => (by cases h)⟩, fun h => absurd h (by show ¬ ((1 : Int) == 1) = false; decide)⟩⟩, fun hs => absurd hs (by show ¬ sb "s" "s" = false; decide +kernel)⟩
        exact S_cons <| X_unpack (names := [("head", _), ("pushback", _)]) (by decide) (T_args <| T_name (l := .dat (Tm.s2 1 head p).enc) rfl ⟨.s2 1 head p, rfl, rfl, [head.enc, p.enc], rfl, rfl, S_nil ⟨rfl, rfl, rfl, rfl, rfl, rfl, rfl⟩⟩) (by intro x hx; simp only [List.mem_cons, List.not_mem_nil, or_false] at hx; rcases hx with rfl | rfl <;> rfl)
    intro fl m τ' j
    refine and7 j fun j0 j1 e1 e2 e3 e4 e5 => ?_
    clear j
    subst j0
    subst j1
    refine S_cons <| X_if <| TT_tagIs e3 ⟨fun hv => ?_, fun hv => S_nil ?_⟩
    · refine S_cons <| X_raiseC eE ok (by decide) <| T_def (a := 258) ok (by kernel_rfl) (by kernel_rfl) <| Ts_cons <| T_name e1 <| Ts_nil <| OC_of (c_inst_error ok hS₂ (by omega) (fr₂ 15 (by decide) (by decide)) (fr₂ 16 (by decide) (by decide))) (lowOk (by exact tT)) .never fun l σ'' ll ⟨hl', he⟩ => ⟨hl', _, he, .inst, S, (Le.refl S).up (by omega), ?_, rfl⟩
      revert hv
      cases head <;> intro hv <;> first | rfl | exact absurd hv Bool.false_ne_true
    refine S_cons <| X_if <| TT_not <| TT_plain <| T_def (a := 202) ok (by kernel_rfl) (by kernel_rfl) <| Ts_cons <| T_name e3 <| Ts_nil <| OC_e1 (c_callable ok head) (lowOk (by exact tT)) .never fun σ₃ ll ho₃ => ?_
    have o₃ := o₂'.mix (ho₃.mono (by exact tT))
    have hS₃ := hS₂.off (Off.refl.mix ho₃) (by exact tT)
    have hf₃ := hf₂.off (Off.refl.mix ho₃) (by exact tT) (by exact tT)
    have hg₃ := hg₂.off (Off.refl.mix ho₃) (by exact tT) (by exact tT)
    have fr₃ : ∀ n, 11 ≤ n → n ≤ 16 → mix σ₃ τ' n = .free := fun n h1 h2 => ((Off.refl.mix ho₃) n (by omega) (by simp)).trans (fr₂ n h1 h2)
    generalize mix σ₃ τ' = τ at *
    refine OT_bool ⟨fun hc => ?_, fun hc => S_nil ?_⟩
    · obtain ⟨c, ec⟩ := enc_tup head
      refine S_cons <| X_raiseC eE ok (by decide) <| T_def (a := 265) ok (by kernel_rfl) (by kernel_rfl) <| Ts_cons <| T_name e1 <| Ts_cons <| T_cstr <| Ts_cons <| T_name e3 ?_
      rw [ec]
      refine Ts_nil <| OC_of (c_type_error ok hS₃ (by omega) (fr₃ 15 (by decide) (by decide)) (fr₃ 16 (by decide) (by decide)) "callable" c) (lowOk (by exact tT)) .never fun l σ₄ ll ⟨hl₄, he⟩ => ⟨hl₄, _, he, .callable head, S, (Le.refl S).up (by omega), ?_, ?_⟩
      · revert hv hc
        cases head <;> intro hv hc <;> first | rfl | exact absurd hc Bool.false_ne_true | exact absurd hv (Ne.symm Bool.false_ne_true)
      · show _ = ballOf (errOf S "callable" head.enc)
        rw [ec]
    have hc' : (sb head.tag "a" || sb head.tag "s") = true := by
      cases q : (sb head.tag "a" || sb head.tag "s") with
      | true => rfl
      | false => rw [q] at hc; cases hc
    have tf := trFault_c (S := S) (pushed := pushed) (body := body) hc'
    refine S_cons <| X_assign <| T_meth ok (T_name e2 ⟨9, 325, 10, _, 322, rfl, hg₃.1, hg₃.2, rfl, fmVar _, by decide, Ts_nil (OC_x2 (c_variable ok hf₃ hg₃) (lowOk (by exact tT)) .never fun q1 σ₄ ll j4 hj4 ho₄ => ?_)⟩)
    have o₄ := o₃.mix (ho₄.mono (by exact tT))
    have hS₄ := hS₃.off (Off.refl.mix ho₄) (by exact tT)
    have hg₄ := hg₃.off (Off.refl.mix ho₄) (by exact tT) (by exact tT)
    have hf₄ : FrAt (mix σ₄ τ) j4 := hj4.mix
    have fr₄ : ∀ n, 11 ≤ n → n ≤ 16 → mix σ₄ τ n = .free := fun n h1 h2 => ((Off.refl.mix ho₄) n (by omega) (by simp; omega)).trans (fr₃ n h1 h2)
    generalize mix σ₄ τ = τ at *
    refine S_cons <| X_assign <| T_meth ok (T_name ((lkp_ne rfl).trans e2) ⟨9, 325, 10, _, 322, rfl, hg₄.1, hg₄.2, rfl, fmVar _, by decide, Ts_nil (OC_x2 (c_variable ok hf₄ hg₄) (lowOk (by exact tT)) .never fun q2 σ₅ ll j5 hj5 ho₅ => ?_)⟩)
    have o₅ := o₄.mix (ho₅.mono (by exact tT))
    have hS₅ := hS₄.off (Off.refl.mix ho₅) (by exact tT)
    have hg₅ := hg₄.off (Off.refl.mix ho₅) (by exact tT) (by exact tT)
    have hf₅ : FrAt (mix σ₅ τ) j5 := hj5.mix
    have fr₅ : ∀ n, 11 ≤ n → n ≤ 16 → mix σ₅ τ n = .free := fun n h1 h2 => ((Off.refl.mix ho₅) n (by omega) (by simp; omega)).trans (fr₄ n h1 h2)
    generalize mix σ₅ τ = τ at *
    have n2 : ∀ {x : Str} {l : LV}, lk m x = some l → sb "first" x = false → sb "last" x = false → lk (putl (putl m "first" (.dat (Tm.var q1).enc)) "last" (.dat (Tm.var q2).enc)) x = some l := fun h a b => (lkp_ne b).trans ((lkp_ne a).trans h)
    have f1 := n2 e1 rfl rfl
    have f2 := n2 e2 rfl rfl
    have f3 := n2 e3 rfl rfl
    have f4 := n2 e4 rfl rfl
    have f5 := n2 e5 rfl rfl
    have f6 : lk (putl (putl m "first" (.dat (Tm.var q1).enc)) "last" (.dat (Tm.var q2).enc)) "first" = some (.dat (Tm.var q1).enc) := (lkp_ne rfl).trans (lkp_same rfl)
    have f7 : lk (putl (putl m "first" (.dat (Tm.var q1).enc)) "last" (.dat (Tm.var q2).enc)) "last" = some (.dat (Tm.var q2).enc) := lkp_same rfl
    show TS _ _ _ _ _ (putl (putl m "first" (.dat (Tm.var q1).enc)) "last" (.dat (Tm.var q2).enc)) _ _
    generalize putl (putl m "first" (.dat (Tm.var q1).enc)) "last" (.dat (Tm.var q2).enc) = m at f1 f2 f3 f4 f5 f6 f7
    refine S_cons <| X_assign <| T_def (a := 343) ok (by kernel_rfl) (by kernel_rfl) <| Ts_cons <| T_name f1 <| Ts_cons <| T_name f3 <| Ts_cons <| T_name f6 <| Ts_cons <| T_name f7 <| Ts_nil <| OC_of (c_nonterminal ok hS₅ (by omega) head hh hc' _ _) (lowOk (by exact tT)) .never fun l σ₆ ll ⟨⟨nh, hl⟩, ⟨S₆, hS₆, hle⟩, ho₆⟩ => ?_
    subst hl
    have o₆ := o₅.mix (ho₆.mono (by exact tT))
    have hS₆' : SymAt (mix σ₆ τ) S₆ := hS₆.mix
    have hf₆ := hf₅.off (Off.refl.mix ho₆) (by exact tT) (by exact tT)
    have hg₆ := hg₅.off (Off.refl.mix ho₆) (by exact tT) (by exact tT)
    have fr₆ : ∀ n, 11 ≤ n → n ≤ 16 → mix σ₆ τ n = .free := fun n h1 h2 => ((Off.refl.mix ho₆) n (by omega) (by simp; omega)).trans (fr₅ n h1 h2)
    have sz := hle.size
    have hB₆ := hB.mono hle
    have pf₆ := partFault_mono hle hb
    generalize mix σ₆ τ = τ at *
    have g1 := (lkp_ne (x := "new_head") (v := LV.dat nh) rfl).trans f1
    have g2 := (lkp_ne (x := "new_head") (v := LV.dat nh) rfl).trans f2
    have g4 := (lkp_ne (x := "new_head") (v := LV.dat nh) rfl).trans f4
    have g5 := (lkp_ne (x := "new_head") (v := LV.dat nh) rfl).trans f5
    have g6 := (lkp_ne (x := "new_head") (v := LV.dat nh) rfl).trans f6
    have g7 := (lkp_ne (x := "new_head") (v := LV.dat nh) rfl).trans f7
    have g8 : lk (putl m "new_head" (.dat nh)) "new_head" = some (.dat nh) := lkp_same rfl
    show TS _ _ _ _ _ (putl m "new_head" (.dat nh)) _ _
    generalize putl m "new_head" (.dat nh) = m at g1 g2 g4 g5 g6 g7 g8
    cases pushed with
    | none =>
      refine S_cons <| X_if <| TT_cmp <| T_name g5 <| T_cnone <| O_is ⟨_, rfl, fun _ => ?_, fun h => (by cases h)⟩
      refine S_cons <| X_retK kR <| T_def (a := 180) ok (by kernel_rfl) (by kernel_rfl) <| Ts_cons <| T_num_ 5 ok <| Ts_cons <| T_tuple <| Ts_cons <| T_name g8 <| Ts_cons <| T_def (a := 390) ok (by kernel_rfl) (by kernel_rfl) <| Ts_cons <| T_name g1 <| Ts_cons <| T_name g4 <| Ts_cons <| T_name g6 <| Ts_cons <| T_name g7 <| Ts_cons <| T_name g2 <| Ts_nil <|
        OC_of (c_body ok hS₆' ⟨_, hf₆⟩ hg₆ fr₆ hB₆ (by omega) body (hb.mono hle) hbz (Tm.var q1).enc (Tm.var q2).enc (var_ne _)) (lowOk (by exact tT)) (.exE eE ?_) fun l σ₇ ll ⟨hpf, ⟨x, hl⟩, _⟩ => ?_
      · rintro z ⟨F, S', hl', hpf, rfl⟩
        exact ⟨F, S', (hle.trans hl').up (by omega), by rw [tf, ← pf₆, hpf]; rfl, rfl⟩
      subst hl
      refine Ts_nil ⟨[nh, x], rfl, leT tT, Ts_nil <| OC_of (c_struct ok 5 [nh, x]) (lowOk (by exact tT)) .never fun l σ₈ ll ⟨hl, ho₈⟩ => ⟨ll, ?_, ⟨_, hl⟩⟩⟩
      rw [tf, ← pf₆, hpf]; rfl
    | some p =>
      obtain ⟨hp1, hp2, hp3⟩ := hp p rfl
      have hno : isNoneB (.dat (optEnc (some p))) = false := by
        obtain ⟨c, ec⟩ := enc_tup p
        show isNoneB (.dat p.enc) = false
        rw [ec]; rfl
      refine S_cons <| X_if <| TT_cmp <| T_name g5 <| T_cnone <| O_is ⟨_, rfl, fun h => (by rw [hno] at h; cases h), fun _ => S_nil ?_⟩
      refine S_cons <| X_assign <| T_meth ok (T_name g2 ⟨9, 325, 10, _, 322, rfl, hg₆.1, hg₆.2, rfl, fmVar _, by decide, Ts_nil (OC_x2 (c_variable ok hf₆ hg₆) (lowOk (by exact tT)) .never fun q3 σ₇ ll j7 hj7 ho₇ => ?_)⟩)
      have hS₇ := hS₆'.off (Off.refl.mix ho₇) (by exact tT)
      have hg₇ := hg₆.off (Off.refl.mix ho₇) (by exact tT) (by exact tT)
      have hf₇ : FrAt (mix σ₇ τ) j7 := hj7.mix
      have fr₇ : ∀ n, 11 ≤ n → n ≤ 16 → mix σ₇ τ n = .free := fun n h1 h2 => ((Off.refl.mix ho₇) n (by omega) (by simp; omega)).trans (fr₆ n h1 h2)
      generalize mix σ₇ τ = τ at *
      refine S_cons <| X_assign <| T_def (a := 390) ok (by kernel_rfl) (by kernel_rfl) <| Ts_cons <| T_name ((lkp_ne rfl).trans g1) <| Ts_cons <| T_name ((lkp_ne rfl).trans g4) <| Ts_cons <| T_name ((lkp_ne rfl).trans g6) <| Ts_cons <| T_name (lkp_same rfl) <| Ts_cons <| T_name ((lkp_ne rfl).trans g2) <| Ts_nil <|
        OC_of (c_body ok hS₇ ⟨_, hf₇⟩ hg₇ fr₇ hB₆ (by omega) body (hb.mono hle) hbz (Tm.var q1).enc (Tm.var q3).enc (var_ne _)) (lowOk (by exact tT)) (.exE eE ?_) fun l σ₈ ll ⟨hpf, ⟨x, hl⟩, ⟨S₈, hS₈, hle₈⟩, _, ho₈⟩ => ?_
      · rintro z ⟨F, S', hl', hpf, rfl⟩
        exact ⟨F, S', (hle.trans hl').up (by omega), by rw [tf, ← pf₆, hpf]; rfl, rfl⟩
      subst hl
      have sz₈ := hle₈.size
      have hS₈' : SymAt (mix σ₈ τ) S₈ := hS₈.mix
      have fr₈ : ∀ n, 15 ≤ n → n ≤ 16 → mix σ₈ τ n = .free := fun n h1 h2 => ((Off.refl.mix ho₈) n (by omega) (by simp; omega)).trans (fr₇ n (by omega) h2)
      generalize mix σ₈ τ = τ at *
      have n2 : ∀ {y : Str} {l : LV}, lk m y = some l → sb "middle" y = false → sb "goal" y = false → lk (putl (putl m "middle" (.dat (Tm.var q3).enc)) "goal" (.dat x)) y = some l := fun h a b => (lkp_ne b).trans ((lkp_ne a).trans h)
      refine S_cons <| X_assign <| T_def (a := 350) ok (by kernel_rfl) (by kernel_rfl) <| Ts_cons <| T_name (n2 g1 rfl rfl) <| Ts_cons <| T_name (l := .dat p.enc) (n2 g5 rfl rfl) <| Ts_cons <| T_name (n2 g7 rfl rfl) <| Ts_cons <| T_name ((lkp_ne rfl).trans (lkp_same rfl)) <| Ts_nil <|
        OC_of (c_terminals ok hS₈' (hB₆.mono hle₈) (by omega) (fr₈ 15 (by decide) (by decide)) (fr₈ 16 (by decide) (by decide)) p ((hp1.mono hle).mono hle₈) hp2 (by omega) (Tm.var q2).enc (Tm.var q3).enc (var_ne _)) (lowOk (by exact tT)) (.exE eE ?_) fun l σ₉ ll ⟨hlf, ⟨y, hl⟩, ho₉⟩ => ?_
      · rintro z ⟨F, hlf, rfl⟩
        refine ⟨F, S₈, (hle.trans hle₈).up (by omega), ?_, rfl⟩
        rw [tf, ← pf₆, hpf]
        exact hlf
      subst hl
      refine S_cons <| X_retK kR <| T_def (a := 180) ok (by kernel_rfl) (by kernel_rfl) <| Ts_cons <| T_num_ 5 ok <| Ts_cons <| T_tuple <| Ts_cons <| T_name ((lkp_ne rfl).trans (n2 g8 rfl rfl)) <| Ts_cons <| T_def (a := 237) ok (by kernel_rfl) (by kernel_rfl) <| Ts_cons <| T_list <| Ts_cons <| T_name (l := .dat x) ((lkp_ne rfl).trans (lkp_same rfl)) <| Ts_cons <| T_name (l := .dat y) (lkp_same rfl) <| Ts_nil ⟨[x, y], rfl, leT tT, Ts_nil <| OC_x1 (c_conjunction ok [x, y] (by simp)) (lowOk (by exact tT)) .never fun cj σ₁₀ ll ho₁₀ => ?_⟩
      refine Ts_nil ⟨[nh, cj], rfl, leT tT, Ts_nil <| OC_of (c_struct ok 5 [nh, cj]) (lowOk (by exact tT)) .never fun l σ₁₁ ll ⟨hl, ho₁₁⟩ => ⟨ll, ?_, ⟨_, hl⟩⟩⟩
      rw [tf, ← pf₆, hpf]
      exact hlf
  · decide +kernel
end
noncomputable def atoms0 : List Str := ["[]", ".", "{}", "-", "+", "*", "/", ",", "|", ";", "->", "\\+", ":-", "?-", "-->", "!", "true", "fail", "false", "call", "=", "^", "error", "", "end_of_file", "system", "$VAR", "catch", "throw"]
noncomputable def rows0 : List (Str × Int) := [(".", 2), (",", 2), (";", 2), ("->", 2), ("\\+", 1), (":-", 2), (":-", 1), ("?-", 1), ("-->", 2), ("{}", 1), ("=", 2), ("^", 2), ("-", 1), ("-", 2), ("+", 2), ("/", 2), ("error", 2), ("$VAR", 1), ("catch", 3), ("throw", 1), ("!", 0), ("true", 0), ("fail", 0), ("false", 0), ("call", 1), ("call", 2), ("call", 3), ("call", 4), ("call", 5), ("call", 6), ("call", 7), ("call", 8)]
noncomputable def rowEnc (r : Str × Int) : PyData := .tuple [.str r.1, .int r.2]
noncomputable def asStr : Expr → Option (Str × Nat × Pos)
  | .Constant (.str x) k p => some (x, k, p)
  | _ => none
noncomputable def asInt : Expr → Option (Int × Nat × Pos)
  | .Constant (.int x) k p => some (x, k, p)
  | _ => none
noncomputable def asRow : Expr → Option (Expr × Expr × Nat × Pos)
  | .Tuple [a, b] k p => some (a, b, k, p)
  | _ => none
theorem asStr_eq {e : Expr} {v : Str × Nat × Pos} (h : asStr e = some v) : e = .Constant (.str v.1) v.2.1 v.2.2 := by
  unfold asStr at h
  split at h <;> cases h
  rfl
theorem asInt_eq {e : Expr} {v : Int × Nat × Pos} (h : asInt e = some v) : e = .Constant (.int v.1) v.2.1 v.2.2 := by
  unfold asInt at h
  split at h <;> cases h
  rfl
theorem asRow_eq {e : Expr} {v : Expr × Expr × Nat × Pos} (h : asRow e = some v) : e = .Tuple [v.1, v.2.1] v.2.2.1 v.2.2.2 := by
  unfold asRow at h
  split at h <;> cases h
  rfl
noncomputable def cstrs : List Expr → Option (List Str)
  | [] => some []
  | e :: r => (asStr e).bind fun x => (cstrs r).map (x.1 :: ·)
noncomputable def crows : List Expr → Option (List (Str × Int))
  | [] => some []
  | e :: r => (asRow e).bind fun v => (asStr v.1).bind fun x => (asInt v.2.1).bind fun i => (crows r).map ((x.1, i.1) :: ·)
theorem dats_map {α : Type} (f : α → PyData) : ∀ xs : List α, dats (xs.map fun x => .dat (f x)) = some (xs.map f)
  | [] => rfl
  | x :: r => by
    show (dats (r.map fun x => .dat (f x))).map (f x :: ·) = _
    rw [dats_map f r]; rfl
section
variable {cx : Cx} {fx : Fx} {E : Value → Shared → Prop} {d : Nat} {m : Locals} {σ : Store}
theorem Ts_strs {pos : Pos} {es : List Expr} : ∀ {xs : List Str} {Q : List LV → Store → Prop}, cstrs es = some xs → Q (xs.map fun x => .dat (.str x)) σ → TEs cx fx E d pos es m σ Q := by
  induction es with
  | nil => intro xs Q h q; cases h; exact Ts_nil q
  | cons e r ih =>
    intro xs Q h q
    unfold cstrs at h
    obtain ⟨x, h1, h⟩ := Option.bind_eq_some_iff.mp h
    obtain ⟨ys, h2, rfl⟩ := Option.map_eq_some_iff.mp h
    rw [asStr_eq h1]
    exact Ts_cons (T_cstr (ih h2 q))
theorem Ts_rows {pos : Pos} {es : List Expr} : ∀ {xs : List (Str × Int)} {Q : List LV → Store → Prop}, crows es = some xs → Q (xs.map fun x => .dat (rowEnc x)) σ → TEs cx fx E d pos es m σ Q := by
  induction es with
  | nil => intro xs Q h q; cases h; exact Ts_nil q
  | cons e r ih =>
    intro xs Q h q
    unfold crows at h
    obtain ⟨v, h0, h⟩ := Option.bind_eq_some_iff.mp h
    obtain ⟨x, h1, h⟩ := Option.bind_eq_some_iff.mp h
    obtain ⟨i, h2, h⟩ := Option.bind_eq_some_iff.mp h
    obtain ⟨ys, h3, rfl⟩ := Option.map_eq_some_iff.mp h
    rw [asRow_eq h0, asStr_eq h1, asInt_eq h2]
    exact Ts_cons (T_tuple (Ts_cons (T_cstr (Ts_cons (T_cint (Ts_nil ⟨[.str x.1, .int i.1], rfl, leT tT, ih h3 q⟩))))))
end
noncomputable def asRet : List Stmt → Option (List Expr × Nat × Pos × Pos)
  | [.Return (some (.Tuple es k p)) q] => some (es, k, p, q)
  | _ => none
theorem asRet_eq {b : List Stmt} {v : List Expr × Nat × Pos × Pos} (h : asRet b = some v) : b = [.Return (some (.Tuple v.1 v.2.1 v.2.2.1)) v.2.2.2] := by
  unfold asRet at h
  split at h <;> cases h
  rfl
section
variable {cx : Cx} {σ : Store}
theorem c_fixed_atoms (ok : CxOk cx) : TC cx 0 (.ref 60) [] σ (fun l σ' => l = .dat (.tuple (atoms0.map .str)) ∧ Off [] σ σ') (fun _ => False) := by
  refine TC_fn2 (d := 0) (ls := []) ok (show _ = some (o60_3 cx.w.params) by kernel_rfl) (by kernel_rfl) [] ?_ ?_ (by decide) ?_ ?_
  · exact bnd0 fun _ => BindsTo.of_eq rfl
  · decide +kernel
  · intro fD fE fK eE kR kN
    have hb : ∃ v, asRet (fB (T 19)) = some v ∧ cstrs v.1 = some atoms0 := ⟨_, (by kernel_rfl : asRet (fB (T 19)) = some ((asRet (fB (T 19))).getD ([], 0, ⟨0, 0, 0, 0⟩, ⟨0, 0, 0, 0⟩))), by kernel_rfl⟩
    obtain ⟨v, hv, hc⟩ := hb
    generalize fB (T 19) = b at *
    rw [asRet_eq hv]
    exact S_cons <| X_retK kR <| T_tuple <| Ts_strs hc ⟨_, dats_map .str _, Nat.le_of_ble_eq_true (by kernel_rfl), datLow _, rfl, .low⟩
  · decide +kernel
theorem c_fixed_functors (ok : CxOk cx) : TC cx 0 (.ref 67) [] σ (fun l σ' => l = .dat (.tuple (rows0.map rowEnc)) ∧ Off [] σ σ') (fun _ => False) := by
  refine TC_fn2 (d := 0) (ls := []) ok (show _ = some (o67_3 cx.w.params) by kernel_rfl) (by kernel_rfl) [] ?_ ?_ (by decide) ?_ ?_
  · exact bnd0 fun _ => BindsTo.of_eq rfl
  · decide +kernel
  · intro fD fE fK eE kR kN
    have hb : ∃ v, asRet (fB (T 20)) = some v ∧ crows v.1 = some rows0 := ⟨_, (by kernel_rfl : asRet (fB (T 20)) = some ((asRet (fB (T 20))).getD ([], 0, ⟨0, 0, 0, 0⟩, ⟨0, 0, 0, 0⟩))), by kernel_rfl⟩
    obtain ⟨v, hv, hc⟩ := hb
    generalize fB (T 20) = b at *
    rw [asRet_eq hv]
    exact S_cons <| X_retK kR <| T_tuple <| Ts_rows hc ⟨_, dats_map rowEnc _, Nat.le_of_ble_eq_true (by kernel_rfl), datLow _, rfl, .low⟩
  · decide +kernel
end
noncomputable def symA (xs : List Str) : Sy := xs.foldl (fun S x => (S.atom x).1) ⟨[], []⟩
noncomputable def symF (S : Sy) (rs : List (Str × Int)) : Sy := rs.foldl (fun S r => (S.func r.1 r.2).1) S
noncomputable def sym0 : Sy := symF (symA atoms0) rows0
theorem symA_snoc (xs : List Str) (x : Str) : symA (xs ++ [x]) = ((symA xs).atom x).1 := by simp [symA]
theorem symF_snoc (S : Sy) (rs : List (Str × Int)) (r : Str × Int) : symF S (rs ++ [r]) = ((symF S rs).func r.1 r.2).1 := by simp [symF]
theorem foldl_size {α : Type} (f : Sy → α → Sy) (c : Nat) (h : ∀ S x, (f S x).size ≤ S.size + c) : ∀ (xs : List α) (S : Sy), (xs.foldl f S).size ≤ S.size + c * xs.length
  | [], S => by simp
  | x :: r, S => by
    have h1 := foldl_size f c h r (f S x)
    have h2 := h S x
    have e : c * (x :: r).length = c * r.length + c := by rw [List.length_cons, Nat.mul_succ]
    rw [List.foldl_cons, e]
    lia
theorem symA_size (xs : List Str) : (symA xs).size ≤ xs.length := by
  have := foldl_size (fun S x => (S.atom x).1) 1 (fun S x => S.atom_size x) xs ⟨[], []⟩
  have e : (⟨[], []⟩ : Sy).size = 0 := rfl
  unfold symA
  lia
theorem symF_size (S : Sy) (rs : List (Str × Int)) : (symF S rs).size ≤ S.size + 2 * rs.length :=
by
  have h : ∀ (S : Sy) (x : Str × Int), (S.func x.1 x.2).1.size ≤ S.size + 2 := fun S x => (S.func_le x.1 x.2).size
  have h2 : (rs.foldl (fun S r => (S.func r.1 r.2).1) S).size ≤ S.size + 2 * rs.length := foldl_size _ _ h rs S
  rw [show symF S rs = rs.foldl (fun S r => (S.func r.1 r.2).1) S from rfl]
  exact h2
theorem sym0_funs : sym0.funs = funs0 := by kernel_rfl
theorem sym0_texts : sym0.texts = atoms0 := by kernel_rfl
section
variable {cx : Cx} {σ : Store}
theorem c_symInit (ok : CxOk cx) (h1 : σ 1 = .inst 154 2) (h2 : σ 2 = .ns []) (hf : ∀ n, 3 ≤ n → n ≤ 6 → σ n = .free) : TC cx 3 (.ref 81) [.loc 1] σ (fun l σ' => l = .dat .none ∧ SymAt σ' sym0 ∧ Off [2, 3, 4, 5, 6] σ σ') (fun _ => False) := by
  refine TC_fn2 (d := 3) (ls := [.loc 1]) ok (show _ = some (o81_4 cx.w.params) by kernel_rfl) (by kernel_rfl) ["self"] ?_ ?_ (by decide) ?_ ?_
  · exact bnd1 fun _ _ => BindsTo.of_eq rfl
  · decide +kernel
  · intro fD fE fK eE kR kN
    have fs : ∀ n, n ∈ [("texts" : Str), "atom_numbers", "functors", "functor_numbers"] → FS cx.w 154 n := by
      intro n hn
      simp only [List.mem_cons, List.not_mem_nil, or_false] at hn
      rcases hn with rfl | rfl | rfl | rfl <;> exact ⟨by kernel_rfl, by kernel_rfl, by kernel_rfl, by kernel_rfl⟩
    refine S_cons <| X_setattr ok <| T_listN 3 <| Ts_nil ⟨[], rfl, leT tT, hf 3 (by decide) (by decide), T_name rfl ⟨1, 154, 2, _, rfl, by decide, h1, h2, by simp, fs _ (.head _), ?_, ?_⟩⟩
    · intro n e; cases e; decide
    refine S_cons <| X_setattr ok <| T_dict0 4 (.sdict []) (.inl rfl) (hf 4 (by decide) (by decide)) <| T_name rfl ⟨1, 154, 2, _, rfl, by decide, h1, rfl, Nat.le_of_ble_eq_true rfl, fs _ (.tail _ (.head _)), ?_, ?_⟩
    · intro n e; cases e; decide
    refine S_cons <| X_setattr ok <| T_listN 5 <| Ts_nil ⟨[], rfl, leT tT, hf 5 (by decide) (by decide), T_name rfl ⟨1, 154, 2, _, rfl, by decide, h1, rfl, Nat.le_of_ble_eq_true rfl, fs _ (.tail _ (.tail _ (.head _))), ?_, ?_⟩⟩
    · intro n e; cases e; decide
    refine S_cons <| X_setattr ok <| T_dict0 6 (.tdict []) (.inr (.inl rfl)) (hf 6 (by decide) (by decide)) <| T_name rfl ⟨1, 154, 2, _, rfl, by decide, h1, rfl, Nat.le_of_ble_eq_true rfl, fs _ (.tail _ (.tail _ (.tail _ (.head _)))), ?_, ?_⟩
    · intro n e; cases e; decide
    have hS₀ : SymAt (upd (upd (upd (upd (upd (upd (upd (upd (low σ) 3 (.list [])) 2 (.ns [("texts", .loc 3)])) 4 (.sdict [])) 2 (.ns [("texts", .loc 3), ("atom_numbers", .loc 4)])) 5 (.list [])) 2 (.ns [("texts", .loc 3), ("atom_numbers", .loc 4), ("functors", .loc 5)])) 6 (.tdict [])) 2 (.ns symNs)) ⟨[], []⟩ := ⟨h1, rfl, rfl, rfl, rfl, rfl, .nil⟩
    have o₀ : Off [2, 3, 4, 5, 6] σ (upd (upd (upd (upd (upd (upd (upd (upd (low σ) 3 (.list [])) 2 (.ns [("texts", .loc 3)])) 4 (.sdict [])) 2 (.ns [("texts", .loc 3), ("atom_numbers", .loc 4)])) 5 (.list [])) 2 (.ns [("texts", .loc 3), ("atom_numbers", .loc 4), ("functors", .loc 5)])) 6 (.tdict [])) 2 (.ns symNs)) :=
      (((((((Off.low.upd (by exact tT)).upd (by exact tT)).upd (by exact tT)).upd (by exact tT)).upd (by exact tT)).upd (by exact tT)).upd (by exact tT)).upd (by exact tT)
    show TS _ _ _ _ _ _ (upd (upd (upd (upd (upd (upd (upd (upd (low σ) 3 (.list [])) 2 (.ns [("texts", .loc 3)])) 4 (.sdict [])) 2 (.ns [("texts", .loc 3), ("atom_numbers", .loc 4)])) 5 (.list [])) 2 (.ns [("texts", .loc 3), ("atom_numbers", .loc 4), ("functors", .loc 5)])) 6 (.tdict [])) 2 (.ns symNs)) _
    generalize upd (upd (upd (upd (upd (upd (upd (upd (low σ) 3 (.list [])) 2 (.ns [("texts", .loc 3)])) 4 (.sdict [])) 2 (.ns [("texts", .loc 3), ("atom_numbers", .loc 4)])) 5 (.list [])) 2 (.ns [("texts", .loc 3), ("atom_numbers", .loc 4), ("functors", .loc 5)])) 6 (.tdict [])) 2 (.ns symNs) = τ at hS₀ o₀
    refine S_cons <| X_for (.exE eE) (by decide) <| TI_tup (by decide) <| T_def (a := 60) ok (by kernel_rfl) (by kernel_rfl) <| Ts_nil <| OC_of (c_fixed_atoms ok) (lowOk (by exact tT)) .never fun l σ₁ ll ⟨hl, ho₁⟩ => ⟨atoms0.map .str, hl, ?_⟩
    refine forL_ind _ (fun i m τ' => lk m "self" = some (.loc 1) ∧ SymAt τ' (symA (atoms0.take i)) ∧ Off [2, 3, 4, 5, 6] σ τ') ?_ ?_ ⟨rfl, hS₀.off (Off.refl.mix ho₁) (by exact tT), o₀.mix (ho₁.mono (by exact tT))⟩
    · intro i y m τ' hy j
      refine and3 j fun e1 hS o => ?_
      clear j
      rw [List.getElem?_map] at hy
      obtain ⟨x, hx, rfl⟩ := Option.map_eq_some_iff.mp hy
      have hi := (List.getElem?_eq_some_iff.mp hx).1
      have sz := symA_size (atoms0.take i)
      rw [List.length_take] at sz
      have hl : atoms0.length = 29 := rfl
      refine S_cons <| X_expr <| T_symM (f := 88) ok ((lkp_ne rfl).trans e1) hS.s1 hS.s2 rfl (Ts_cons <| T_name (lkp_same rfl) <| Ts_nil <| OC_of (c_atom ok hS (by lia) x) (lowOk (by exact tT)) .never fun l σ₂ ll ⟨hl, hS₂, ho₂⟩ => ⟨by rw [hl]; rfl, S_nil ⟨rfl, (lkp_ne rfl).trans e1, ?_, o.mix (ho₂.mono (by exact tT))⟩⟩) (by decide)
      rw [List.take_add_one, hx, show (some x).toList = [x] from rfl, symA_snoc]
      exact hS₂.mix
    · intro m τ' j
      refine and3 j fun e1 hS o => ?_
      clear j
      rw [List.length_map, List.take_length] at hS
      refine S_cons <| X_for (.exE eE) (by decide) <| TI_tup (by decide) <| T_def (a := 67) ok (by kernel_rfl) (by kernel_rfl) <| Ts_nil <| OC_of (c_fixed_functors ok) (lowOk (by exact tT)) .never fun l σ₁ ll ⟨hl, ho₁⟩ => ⟨rows0.map rowEnc, hl, ?_⟩
      refine forL_ind _ (fun i m τ' => lk m "self" = some (.loc 1) ∧ SymAt τ' (symF (symA atoms0) (rows0.take i)) ∧ Off [2, 3, 4, 5, 6] σ τ') ?_ ?_ ⟨e1, hS.off (Off.refl.mix ho₁) (by exact tT), o.mix (ho₁.mono (by exact tT))⟩
      · intro i y m τ' hy j
        refine and3 j fun e1 hS o => ?_
        clear j
        rw [List.getElem?_map] at hy
        obtain ⟨x, hx, rfl⟩ := Option.map_eq_some_iff.mp hy
        have hi := (List.getElem?_eq_some_iff.mp hx).1
        have sz := symF_size (symA atoms0) (rows0.take i)
        have sz' := symA_size atoms0
        rw [List.length_take] at sz
        have hl : rows0.length = 32 := rfl
        have hl' : atoms0.length = 29 := rfl
        refine S_cons <| X_expr <| T_symM (f := 109) ok ((lkp_ne rfl).trans e1) hS.s1 hS.s2 rfl (Ts_cons <| T_item0 <| T_name (lkp_same rfl) ⟨.str x.1, [.int x.2], rfl, Ts_cons <| T_item1 <| T_name (lkp_same rfl) ⟨.str x.1, .int x.2, [], rfl, Ts_nil <| OC_of (c_func ok hS (by lia) x.1 x.2) (lowOk (by exact tT)) .never fun l σ₂ ll ⟨hl, hS₂, ho₂⟩ => ⟨by rw [hl]; rfl, S_nil ⟨rfl, (lkp_ne rfl).trans e1, ?_, o.mix (ho₂.mono (by exact tT))⟩⟩⟩⟩) (by decide)
        rw [List.take_add_one, hx, show (some x).toList = [x] from rfl, symF_snoc]
        exact hS₂.mix
      · intro m τ' j
        refine and3 j fun e1 hS o => ?_
        clear j
        rw [List.length_map, List.take_length] at hS
        exact S_nil (kN _ _ ⟨rfl, hS, o⟩)
  · decide +kernel
end
theorem DReps.take {ρ : RM} {h : Heap} {ds : List PyData} {vs : List Value} (r : DReps ρ h ds vs) (k : Nat) : DReps ρ h (ds.take k) (vs.take k) := by
  obtain ⟨as, r, f⟩ := r
  induction k generalizing ds vs as with
  | zero => exact ⟨[], .nil, fun _ h => nomatch h⟩
  | succ k ih =>
    cases r with
    | nil => exact ⟨[], .nil, fun _ h => nomatch h⟩
    | cons h1 h2 =>
      obtain ⟨bs, r', f'⟩ := ih _ h2 fun b hb => f b (List.mem_append_right _ hb)
      exact ⟨_, .cons h1 r', fun b hb => (List.mem_append.mp hb).elim (fun hb => f b (List.mem_append_left _ hb)) (f' b)⟩
section
variable {cx : Cx} {fx : Fx} {E : Value → Shared → Prop} {d : Nat} {m : Locals} {σ : Store}
/-- xs[:k] -/
theorem T_upto {value : Expr} {p pos kp : Pos} {kk : Nat} {k : Nat} {Q : LV → Store → Prop} (h : TE cx fx E d value m σ (fun l σ₁ => ∃ xs, l = .dat (.list xs) ∧ xs.length ≤ 100000 ∧ Q (.dat (.list (xs.take k))) σ₁))
    (ht : ∀ o r, letTemporaryGo value o r = pure () := by intro _ _; rfl) : TE cx fx E d (.Subscript value (.Slice none (some (.Constant (.int (k : Int)) kk kp)) none p) pos) m σ Q := fun A ρ s ok R =>
  wpAny_Subscript_list_slice (wpAny_mono (h A ρ s ok R) (fun v s₁ ⟨l, σ₁, ρ₁, X₁, R₁, r₁, xs, el, hz, q⟩ => by
    subst el
    rw [evalPart_none]
    refine wpAny_pure ?_
    show wpAny _ _ (eval (.Constant (.int (k : Int)) kk kp) fx.env) _ _ _
    refine wpAny_Constant_int ?_
    obtain ⟨t, items, rfl, hl, D⟩ := of_list r₁
    have len : items.size = xs.length := by simpa using D.length.symm
    refine ⟨t, items, none, some (k : Int), rfl, hl, by rw [sizeLine_eq]; omega, .none, .int _ _, ?_⟩
    obtain ⟨R₂, X₂⟩ := R₁.push { cls := .type "slice", data := .fields #[.none, .int (k : Int) s₁.toks, .none] } (s₁.toks + 1)
    have D₂ := (D.take k).carry (X₂.carry0 R₁.toRelC)
    have z := newSeq (cls := "list") (Q := Q) R₂ D₂ (.inr ⟨rfl, q⟩)
    rw [slicePick_upto']
    dsimp only at z ⊢
    rw [Heap.size_push] at z
    exact VP.up (X₁.trans X₂) z) fun _ _ x => x) ht
theorem forL_indB {x : Str} {b : List Stmt} {Q : Fl → Locals → Store → Prop} (xs : List PyData) (J : Nat → Locals → Store → Prop) (step : ∀ i y m σ, xs[i]? = some y → J i m σ → TS cx fx E d b (putl m x (.dat y)) σ (fun fl m' σ' => match fl with | .next => J (i + 1) m' σ' | .cont => J (i + 1) m' σ' | .brk => Q .next m' σ' | .ret l => Q (.ret l) m' σ'))
    (fin : ∀ m σ, J xs.length m σ → Q .next m σ) (h0 : J 0 m σ) : ForL cx fx E d x b Q xs m σ := by
  have key : ∀ (ys pre : List PyData) (m : Locals) (σ : Store), xs = pre ++ ys → J pre.length m σ → ForL cx fx E d x b Q ys m σ := by
    intro ys
    induction ys with
    | nil => intro pre m σ e j; subst e; exact fin m σ (by simpa using j)
    | cons y ys ih =>
      intro pre m σ e j
      refine (step pre.length y m σ (by rw [e]; simp) j).mono fun fl m' σ' j' => ?_
      cases fl with
      | next => exact ih (pre ++ [y]) m' σ' (by rw [e]; simp) (by simpa using j')
      | cont => exact ih (pre ++ [y]) m' σ' (by rw [e]; simp) (by simpa using j')
      | brk => exact j'
      | ret l => exact j'
  exact key xs [] m σ rfl h0
end
theorem g_abs (P : Params) : nsIn (KF P) mainGlobals "abs" = some none := by kernel_rfl
theorem b_abs : bootBuiltins "abs" = some (.builtin "abs") := by kernel_rfl
noncomputable def CoinsAt (N : Nat) (σ : Store) : Prop := ∃ cs : List Int, σ 0 = .list (cs.map .int) ∧ (∀ c ∈ cs, 0 ≤ c) ∧ cs.length ≤ N
theorem shaped_ints (cs : List Int) : SeqAt.shaped (.list (cs.map .int)) = true := by
  have h1 : ∀ cs : List Int, PyData.canLayAll0 (cs.map .int) = true := by
    intro cs
    induction cs with
    | nil => rfl
    | cons c cs ih => simp [PyData.canLayAll0, PyData.canLay0, ih]
  have h2 : ∀ cs : List Int, PyData.depthAll (cs.map .int) ≤ 1 := by
    intro cs
    induction cs with
    | nil => simp [PyData.depthAll]
    | cons c cs ih => simp [PyData.depthAll, PyData.depth] at ih ⊢; omega
  have := h2 cs
  unfold SeqAt.shaped
  rw [Bool.and_eq_true]
  exact ⟨by simp only [PyData.canLay0]; exact h1 cs, decide_eq_true (by simp only [PyData.depth]; omega)⟩
theorem CoinsAt.off {N : Nat} {L : List Nat} {σ τ : Store} (h : CoinsAt N σ) (o : Off L σ τ) (h0 : (!memB 0 L) = true) : CoinsAt N τ := let ⟨cs, e, r⟩ := h; ⟨cs, (o 0 (by decide) (memB_not h0)).trans e, r⟩
section
variable {cx : Cx} {σ : Store}
theorem c_coin (ok : CxOk cx) (h : CoinsAt 2000 σ) (sides : Int) (hs : 0 < sides) : TC cx 0 (.ref 416) [.loc 0, .dat (.int sides)] σ (fun l σ' => (∃ r, l = .dat (.int r) ∧ 0 ≤ r ∧ r < sides) ∧ CoinsAt 2000 σ' ∧ Off [0] σ σ') (fun _ => False) := by
  refine TC_fn2 (d := 0) (ls := [.loc 0, .dat (.int sides)]) ok (show _ = some (o416_9 cx.w.params) by kernel_rfl) (by kernel_rfl) ["coins", "sides"] ?_ ?_ (by decide) ?_ ?_
  · exact bnd2 fun _ _ _ => BindsTo.of_eq rfl
  · decide +kernel
  · intro fD fE fK eE kR kN
    obtain ⟨cs, e, hn, hl⟩ := h
    have e' : low σ 0 = .list (cs.map .int) := (low_lt (by decide)).trans e
    refine S_cons <| X_retK kR <| T_ifexp <| TT_cmp <| T_name rfl <| T_list <| Ts_nil ⟨[], rfl, leT tT, O_neN (n := 0) e' (shaped_ints cs) rfl ⟨_, rfl, fun hc => ?_, fun hc => T_cint ⟨datLow _, ⟨0, rfl, by decide, hs⟩, ⟨cs, e', hn, hl⟩, .low⟩⟩⟩
    obtain ⟨us, c, rfl⟩ : ∃ us c, cs = us ++ [c] := ⟨_, _, (List.dropLast_concat_getLast (by rintro rfl; exact absurd hc (by decide))).symm⟩
    rw [List.length_append] at hl
    refine T_bin <| T_methB PySem.F.plainAttrs_list PySem.F.slot_list_pop PySem.F.type_list_pop <| T_name rfl ⟨0, rfl, by rw [e']; rfl, by decide, Ts_nil <| OC_pop (n := 0) (xs := us.map .int) (x := .int c) (by rw [e', List.map_append]; rfl) (by rw [List.length_map]; omega) <| T_name rfl <| O_mod (by omega) ?_⟩
    exact ⟨datLow _, ⟨_, rfl, Int.fmod_nonneg_of_pos _ hs, Int.fmod_lt_of_pos _ hs⟩, ⟨us, rfl, fun x hx => hn x (List.mem_append_left _ hx), by omega⟩, Off.low.upd (by exact tT)⟩
  · decide +kernel
theorem c_coins (ok : CxOk cx) (is : List Int) (hz : is.length ≤ 63) (h0 : σ 0 = .free) : TC cx 1 (.ref 409) [.dat (.list (is.map .int))] σ (fun l σ' => l = .loc 0 ∧ CoinsAt 2000 σ' ∧ Off [0] σ σ') (fun _ => False) := by
  refine TC_fn2 (d := 1) (ls := [.dat (.list (is.map .int))]) ok (show _ = some (o409_9 cx.w.params) by kernel_rfl) (by kernel_rfl) ["script"] ?_ ?_ (by decide) ?_ ?_
  · exact bnd1 fun _ _ => BindsTo.of_eq rfl
  · decide +kernel
  · intro fD fE fK eE kR kN
    have h0L : low σ 0 = .free := (low_lt (by decide)).trans h0
    refine S_cons <| X_assign <| T_listN 0 <| Ts_nil ⟨[], rfl, leT tT, h0L, ?_⟩
    refine S_cons (TX.mono (Q := fun fl m' τ' => fl = .next ∧ lk m' "coins" = some (.loc 0) ∧ CoinsAt 2000 τ' ∧ Off [0] σ τ') ?_ ?_)
    · refine X_for (.exE eE) (by decide) <| TI_list (by decide) <| T_upto (k := 60) <| T_name rfl ⟨is.map .int, rfl, by rw [List.length_map]; omega, _, rfl, ?_⟩
      refine forL_any (P := fun y => ∃ i : Int, y = .int i) (fun m τ => lk m "coins" = some (.loc 0) ∧ CoinsAt 90 τ ∧ Off [0] σ τ) ?_ ⟨rfl, ⟨[], rfl, (fun _ h => nomatch h), by simp⟩, Off.low.upd (by exact tT)⟩ ?_ ?_
      · intro y hy
        obtain ⟨i, _, rfl⟩ := List.mem_map.mp (List.mem_of_mem_take hy)
        exact ⟨i, rfl⟩
      · rintro y m τ ⟨i, rfl⟩ ⟨e1, ⟨cs, ec, hn, hl⟩, o⟩
        refine S_cons <| X_assign <| T_callB ok (g_abs _) b_abs (by decide +kernel) (.inr ⟨_, rfl⟩) <| Ts_cons <| T_name (lkp_same rfl) <| Ts_nil <| OC_abs ?_
        have habs : 0 ≤ (if i < 0 then -i else i) := by split <;> omega
        generalize (if i < 0 then -i else i) = left at habs
        refine S_cons (TX.mono (Q := fun fl m' τ' => fl = .next ∧ lk m' "coins" = some (.loc 0) ∧ CoinsAt 110 τ' ∧ Off [0] σ τ') ?_ ?_)
        · refine X_for (.exE eE) (by decide) <| TI_up ok (by decide) <| Ts_cons <| T_cint <| Ts_nil ⟨20, rfl, by decide, ?_⟩
          refine forL_indB _ (fun i m τ => lk m "coins" = some (.loc 0) ∧ (∃ left : Int, 0 ≤ left ∧ lk m "left" = some (.dat (.int left))) ∧ CoinsAt (90 + i) τ ∧ Off [0] σ τ) ?_ ?_ ⟨(lkp_ne rfl).trans ((lkp_ne rfl).trans e1), ⟨left, habs, lkp_same rfl⟩, ⟨cs, ec, hn, by omega⟩, o⟩
          · intro i y m τ hy j
            refine and4 j fun e1 j1 j2 o => ?_
            clear j
            obtain ⟨left, hp, e2⟩ := j1
            obtain ⟨cs, ec, hn, hl⟩ := j2
            have hi : i < 20 := by
              have := (List.getElem?_eq_some_iff.mp hy).1
              rwa [List.length_map, rangeL_len] at this
            refine S_cons <| X_expr <| T_methB PySem.F.plainAttrs_list PySem.F.slot_list_append PySem.F.type_list_append <| T_name ((lkp_ne rfl).trans e1) ⟨0, rfl, by rw [ec]; rfl, by decide, Ts_cons <| T_bin <| T_name ((lkp_ne rfl).trans e2) <| T_cint <| O_mod (by decide) <| Ts_nil <| OC_append (n := 0) ec (by rw [List.length_map]; omega) ⟨rfl, ?_⟩⟩
            refine S_cons <| X_assign <| T_bin <| T_name ((lkp_ne rfl).trans e2) <| T_cint <| O_fdiv ?_
            have hco : ∀ N, cs.length + 1 ≤ N → CoinsAt N (upd τ 0 (.list (cs.map .int ++ [.int (left.fmod 1000)]))) := fun N hN => ⟨cs ++ [left.fmod 1000], by show AO.list _ = AO.list _; rw [List.map_append]; rfl, fun c hc => by
              rcases List.mem_append.mp hc with hc | hc
              · exact hn c hc
              · rw [List.mem_singleton.mp hc]; exact Int.fmod_nonneg_of_pos _ (by decide), by rw [List.length_append]; exact hN⟩
            have hq : 0 ≤ left.fdiv 1000 := Int.fdiv_nonneg hp (by decide)
            refine S_cons <| X_if <| TT_cmp <| T_name (lkp_same rfl) <| T_cint <| O_eqi ⟨_, rfl, fun _ => ?_, fun _ => ?_⟩
            · exact S_cons <| X_break ⟨rfl, (lkp_ne rfl).trans ((lkp_ne rfl).trans e1), hco 110 (by omega), o.upd (by exact tT)⟩
            · exact S_nil <| S_nil ⟨(lkp_ne rfl).trans ((lkp_ne rfl).trans e1), ⟨_, hq, lkp_same rfl⟩, hco _ (by omega), o.upd (by exact tT)⟩
          · intro m τ j
            refine and4 j fun e1 _ hc o => ?_
            clear j
            rw [List.length_map, rangeL_len] at hc
            exact ⟨rfl, e1, hc, o⟩
        · intro fl m' τ' j
          refine and4 j fun j0 e1 j2 o => ?_
          clear j
          subst j0
          obtain ⟨cs, ec, hn, hl⟩ := j2
          refine S_cons <| X_if <| TT_cmp <| T_len ok <| T_name e1 ⟨cs.map .int, .inr (.inr ⟨0, rfl, by decide, ec⟩), by rw [List.length_map]; omega, T_cint <| O_gt ⟨_, rfl, fun hc => ?_, fun hc => ?_⟩⟩
          · exact S_cons <| X_break ⟨rfl, e1, ⟨cs, ec, hn, by omega⟩, o⟩
          · rw [List.length_map] at hc
            have hc' : ¬ ((90 : Int) < cs.length) := of_decide_eq_false hc
            exact S_nil <| S_nil ⟨e1, ⟨cs, ec, hn, by omega⟩, o⟩
      · rintro m τ ⟨e1, ⟨cs, ec, hn, hl⟩, o⟩
        exact ⟨rfl, e1, ⟨cs, ec, hn, by omega⟩, o⟩
    · intro fl m' τ' j
      refine and4 j fun j0 e1 j2 o => ?_
      clear j
      subst j0
      obtain ⟨cs, ec, hn, hl⟩ := j2
      refine S_cons <| X_expr <| T_methB PySem.F.plainAttrs_list PySem.F.slot_list_reverse PySem.F.type_list_reverse <| T_name e1 ⟨0, rfl, by rw [ec]; rfl, by decide, Ts_nil <| OC_reverse (n := 0) ec (by rw [List.length_map]; omega) ⟨rfl, ?_⟩⟩
      refine S_cons <| X_retK kR <| T_name e1 ⟨locLow (by decide), rfl, ⟨cs.reverse, ?_, fun c hc => hn c (List.mem_reverse.mp hc), by rw [List.length_reverse]; omega⟩, o.upd (by exact tT)⟩
      show AO.list _ = AO.list _
      rw [List.map_reverse]
  · decide +kernel
end
theorem Leaf.end_ {t : Tm} (h : Leaf t) : t.end_ = t := by cases t <;> first | rfl | exact False.elim h
theorem Leaf.size {t : Tm} (h : Leaf t) : t.size = 1 := by cases t <;> first | rfl | exact False.elim h
theorem base_at {S : Sy} (hB : Base S) {f : Nat} {a n : Int} (hf : funs0[f]? = some [a, n]) : Arity S (f : Int) n := by
  obtain ⟨r, hr⟩ := hB
  exact ⟨by lia, a, by rw [Int.toNat_natCast, hr, List.getElem?_append_left (List.getElem?_eq_some_iff.mp hf).1, hf]⟩
noncomputable def Tm.dep : Tm → Nat
  | .s1 _ x => x.dep + 1
  | .s2 _ x y => max x.dep y.dep + 1
  | _ => 1
theorem Tm.dep_le (t : Tm) : t.dep ≤ t.size := by
  induction t with
  | s1 f x ih => exact Nat.succ_le_succ ih
  | s2 f x y ih1 ih2 => show max x.dep y.dep + 1 ≤ x.size + y.size + 1; lia
  | _ => exact Nat.le_refl _
theorem ok_leaf {S : Sy} {t : Tm} (h : Leaf t) : Ok S t := by cases t <;> first | trivial | exact False.elim h
section
variable {cx : Cx} {σ : Store}
theorem c_row (ok : CxOk cx) {S : Sy} (hS : SymAt σ S) (hB : Base S) (hz : S.size ≤ 50000) (hC : CoinsAt 2000 σ) : TC cx 1 (.ref 423) [.loc 0, .loc 1] σ (fun l σ' => (∃ t S', l = .dat t.enc ∧ SymAt σ' S' ∧ Le 1 S S' ∧ Ok S' t ∧ Leaf t.end_ ∧ t.size ≤ 5) ∧ CoinsAt 2000 σ' ∧ Off [0, 3, 4] σ σ') (fun _ => False) := by
  refine TC_fn2 (d := 1) (ls := [.loc 0, .loc 1]) ok (show _ = some (o423_9 cx.w.params) by kernel_rfl) (by kernel_rfl) ["coins", "signs"] ?_ ?_ (by decide) ?_ ?_
  · exact bnd2 fun _ _ _ => BindsTo.of_eq rfl
  · decide +kernel
  · intro fD fE fK eE kR kN
    have hS' := hS.low
    have hC' : CoinsAt 2000 (low σ) := hC.off (Off.low (L := [])) (by exact tT)
    refine S_cons <| X_assign <| T_def (a := 416) ok (by kernel_rfl) (by kernel_rfl) <| Ts_cons <| T_name rfl <| Ts_cons <| T_cint <| Ts_nil <| OC_x3 (c_coin ok hC' 4 (by decide)) (lowOk (by exact tT)) .never fun way σ₁ ll hw0 hw1 hC₁ ho₁ => ?_
    have hS₁ := hS'.off (Off.refl.mix ho₁) (by exact tT)
    have o₁ : Off [0, 3, 4] σ (mix σ₁ (low σ)) := Off.low.trans ((Off.refl.mix ho₁).mono (by exact tT))
    have hC₁' : CoinsAt 2000 (mix σ₁ (low σ)) := hC₁
    generalize mix σ₁ (low σ) = τ at *
    refine S_cons <| X_assign <| T_sub <| T_list <| Ts_cons <| T_tuple <| Ts_cons <| T_cstr <| Ts_cons <| T_num_ 0 ok <| Ts_nil ⟨[.str "a", .int 0], rfl, leT tT, Ts_cons <| T_tuple <| Ts_cons <| T_cstr <| Ts_cons <| T_def (a := 416) ok (by kernel_rfl) (by kernel_rfl) <| Ts_cons <| T_name rfl <| Ts_cons <| T_cint <| Ts_nil <| OC_x3 (c_coin ok hC₁' 3 (by decide)) (lowOk (by exact tT)) .never fun q σ₂ ll _ _ hC₂ ho₂ => ?_⟩
    have hS₂ := hS₁.off (Off.refl.mix ho₂) (by exact tT)
    have o₂ := o₁.mix (ho₂.mono (M := [0, 3, 4]) (by exact tT))
    have hC₂' : CoinsAt 2000 (mix σ₂ τ) := hC₂
    generalize mix σ₂ τ = τ at *
    refine Ts_nil ⟨[.str "v", .int q], rfl, leT tT, Ts_cons <| T_tuple <| Ts_cons <| T_cstr <| Ts_cons <| T_symM (f := 88) ok rfl hS₂.s1 hS₂.s2 rfl (Ts_cons <| T_cstr <| Ts_nil <| OC_e2 (c_atom ok hS₂ (by lia) "x") (lowOk (by exact tT)) .never fun σ₃ ll hS₃ ho₃ => ?_) (by decide)⟩
    have hS₃' : SymAt (mix σ₃ τ) (S.atom "x").1 := hS₃.mix
    have hle := S.atom_le "x"
    have o₃ := o₂.mix (ho₃.mono (M := [0, 3, 4]) (by exact tT))
    have hC₃ : CoinsAt 2000 (mix σ₃ τ) := hC₂'.off (Off.refl.mix ho₃) (by exact tT)
    have hB₃ := hB.mono hle
    generalize mix σ₃ τ = τ at *
    generalize (S.atom "x").1 = S' at *
    refine Ts_nil ⟨[.str "a", .int (S.atom "x").2], rfl, leT tT, Ts_cons <| T_tuple <| Ts_cons <| T_cstr <| Ts_cons <| T_num_ 0 ok <| Ts_nil ⟨[.str "a", .int 0], rfl, leT tT, Ts_nil ⟨[(Tm.atom 0).enc, (Tm.var q).enc, (Tm.atom (S.atom "x").2).enc, (Tm.atom 0).enc], rfl, leT tT, T_name rfl ?_⟩⟩⟩
    obtain ⟨t, ht, htl⟩ : ∃ t : Tm, [(Tm.atom 0).enc, (Tm.var q).enc, (Tm.atom (S.atom "x").2).enc, (Tm.atom 0).enc][way.toNat]? = some t.enc ∧ Leaf t := by
      rcases (by lia : way = 0 ∨ way = 1 ∨ way = 2 ∨ way = 3) with rfl | rfl | rfl | rfl
      · exact ⟨.atom 0, rfl, trivial⟩
      · exact ⟨.var q, rfl, trivial⟩
      · exact ⟨.atom _, rfl, trivial⟩
      · exact ⟨.atom 0, rfl, trivial⟩
    refine O_itemL hw0 ht ?_ (by lia)
    refine S_cons <| X_for (.exE eE) (by decide) <| TI_up ok (by decide) <| Ts_cons <| T_bin <| T_cint <| T_def (a := 416) ok (by kernel_rfl) (by kernel_rfl) <| Ts_cons <| T_name rfl <| Ts_cons <| T_cint <| Ts_nil <| OC_x3 (c_coin ok hC₃ 2 (by decide)) (lowOk (by exact tT)) .never fun r σ₄ ll hr0 hr1 hC₄ ho₄ => ?_
    refine O_add <| Ts_nil ⟨(1 + r).toNat, ?_, by lia, ?_⟩
    · rw [show (1 + r) = ((1 + r).toNat : Int) by lia]; rfl
    refine forL_ind _ (fun i m τ' => lk m "coins" = some (.loc 0) ∧ (∃ t : Tm, lk m "ending" = some (.dat t.enc) ∧ Ok S' t ∧ Leaf t.end_ ∧ t.size ≤ 1 + 2 * i) ∧ CoinsAt 2000 τ' ∧ SymAt τ' S' ∧ Off [0, 3, 4] σ τ') ?_ ?_ ⟨rfl, ⟨t, rfl, ok_leaf htl, by rw [htl.end_]; exact htl, by rw [htl.size]; exact Nat.le_refl _⟩, hC₄, hS₃'.off (Off.refl.mix ho₄) (by exact tT), o₃.mix (ho₄.mono (by exact tT))⟩
    · intro i y m τ' hy j
      refine and5 j fun e1 j1 hC₅ hS₅ o₅ => ?_
      clear j
      obtain ⟨u, e2, hu, hue, huz⟩ := j1
      refine S_cons <| X_assign <| T_tuple <| Ts_cons <| T_cstr <| Ts_cons <| T_num_ 0 ok <| Ts_cons <| T_tuple <| Ts_cons <| T_tuple <| Ts_cons <| T_cstr <| Ts_cons <| T_def (a := 416) ok (by kernel_rfl) (by kernel_rfl) <| Ts_cons <| T_name ((lkp_ne rfl).trans e1) <| Ts_cons <| T_cint <| Ts_nil <| OC_x3 (c_coin ok hC₅ 50 (by decide)) (lowOk (by exact tT)) .never fun c σ₆ ll _ _ hC₆ ho₆ => ?_
      refine Ts_nil ⟨[.str "i", .int c], rfl, leT tT, Ts_cons <| T_name ((lkp_ne rfl).trans e2) <| Ts_nil ⟨[(Tm.int c).enc, u.enc], rfl, leT tT, Ts_nil ⟨[.str "s", .int 0, .tuple [(Tm.int c).enc, u.enc]], rfl, leT tT, S_nil ⟨rfl, (lkp_ne rfl).trans ((lkp_ne rfl).trans e1), ⟨.s2 0 (.int c) u, lkp_same rfl, ⟨base_at hB₃ (f := 0) rfl, fun _ => hue, trivial, hu⟩, hue, ?_⟩, hC₆, hS₅.off (Off.refl.mix ho₆) (by exact tT), o₅.mix (ho₆.mono (by exact tT))⟩⟩⟩⟩
      show 1 + u.size + 1 ≤ 1 + 2 * (i + 1)
      lia
    · intro m τ' j
      refine and5 j fun e1 j1 hC₅ hS₅ o₅ => ?_
      clear j
      obtain ⟨u, e2, hu, hue, huz⟩ := j1
      rw [List.length_map, rangeL_len] at huz
      exact S_cons <| X_retK kR <| T_name e2 ⟨datLow _, ⟨u, S', rfl, hS₅, hle, hu, hue, by lia⟩, hC₅, o₅⟩
  · decide +kernel
end
noncomputable def szP : Nat → Nat
  | 0 => 5
  | n + 1 => 2 * szP n + 1
noncomputable def leP : Nat → Nat
  | 0 => 4
  | n + 1 => 2 * leP n + 4
theorem szP_ge (n : Nat) : 5 ≤ szP n := by
  cases n with
  | zero => exact Nat.le_refl _
  | succ n => have := szP_ge n; show 5 ≤ 2 * szP n + 1; lia
theorem leP_ge (n : Nat) : 4 ≤ leP n := by
  cases n with
  | zero => exact Nat.le_refl _
  | succ n => show 4 ≤ 2 * leP n + 4; lia
section
variable {cx : Cx}
noncomputable def LPart (cx : Cx) (n : Nat) : Prop := ∀ {σ : Store} {S : Sy}, SymAt σ S → Base S → S.size + leP n ≤ 50000 → CoinsAt 2000 σ → TC cx (n + 2) (.ref 430) [.loc 0, .loc 1, .dat (.int (n : Int))] σ (fun l σ' => (∃ t S', l = .dat t.enc ∧ SymAt σ' S' ∧ Le (leP n) S S' ∧ Ok S' t ∧ t.size ≤ szP n ∧ t.dep ≤ n + 5) ∧ CoinsAt 2000 σ' ∧ Off [0, 3, 4, 5, 6] σ σ') (fun _ => False)
set_option maxHeartbeats 2000000 in
theorem lpart_step (ok : CxOk cx) (n : Nat) (hrec : ∀ k, n = k + 1 → LPart cx k) : LPart cx n := by
  intro σ S hS hB hz hC
  have hge := leP_ge n
  have hsz := szP_ge n
  refine TC_fn2 (d := n + 2) (ls := [.loc 0, .loc 1, .dat (.int (n : Int))]) ok (show _ = some (o430_9 cx.w.params) by kernel_rfl) (by kernel_rfl) ["coins", "signs", "deep"] ?_ ?_ (by decide) ?_ ?_
  · exact bnd3 fun _ _ _ _ => BindsTo.of_eq rfl
  · decide +kernel
  · intro fD fE fK eE kR kN
    have hS' := hS.low
    have hC' : CoinsAt 2000 (low σ) := hC.off (Off.low (L := [])) (by exact tT)
    refine S_cons (TX.mono (Q := fun fl m' τ' => fl = .next ∧ ∃ way : Int, lk m' "way" = some (.dat (.int way)) ∧ 0 ≤ way ∧ (way < 7 ∨ (0 < n ∧ way < 12)) ∧ lk m' "coins" = some (.loc 0) ∧ lk m' "signs" = some (.loc 1) ∧ lk m' "deep" = some (.dat (.int (n : Int))) ∧ SymAt τ' S ∧ CoinsAt 2000 τ' ∧ Off [0, 3, 4, 5, 6] σ τ') ?_ ?_)
    · refine X_assign <| T_def (a := 416) ok (by kernel_rfl) (by kernel_rfl) <| Ts_cons <| T_name rfl <| Ts_cons <| T_ifexp <| TT_cmp <| T_name rfl <| T_cint <| O_gt ⟨_, rfl, fun hc => T_cint <| Ts_nil <| OC_of (c_coin ok hC' 12 (by decide)) (lowOk (by exact tT)) .never fun l σ₁ ll ⟨⟨way, hl, hw0, hw1⟩, hC₁, ho₁⟩ => ?_, fun hc => T_cint <| Ts_nil <| OC_of (c_coin ok hC' 7 (by decide)) (lowOk (by exact tT)) .never fun l σ₁ ll ⟨⟨way, hl, hw0, hw1⟩, hC₁, ho₁⟩ => ?_⟩
      · subst hl
        have hn : (0 : Int) < n := of_decide_eq_true hc
        exact ⟨rfl, way, rfl, hw0, .inr ⟨by lia, hw1⟩, rfl, rfl, rfl, hS'.off (Off.refl.mix ho₁) (by exact tT), hC₁, Off.low.trans ((Off.refl.mix ho₁).mono (by exact tT))⟩
      · subst hl
        exact ⟨rfl, way, rfl, hw0, .inl hw1, rfl, rfl, rfl, hS'.off (Off.refl.mix ho₁) (by exact tT), hC₁, Off.low.trans ((Off.refl.mix ho₁).mono (by exact tT))⟩
    intro fl m τ j
    obtain ⟨rfl, way, j⟩ := j
    refine and9 j fun e4 hw0 hw e1 e2 e3 hS₁ hC₁ o₁ => ?_
    clear j
    refine S_cons <| X_if <| TT_cmp <| T_name e4 <| T_cint <| O_eqi ⟨_, rfl, fun h6 => ?_, fun h6 => S_nil ?_⟩
    · refine S_cons <| X_retK kR <| T_tuple <| Ts_cons <| T_cstr <| Ts_cons <| T_def (a := 416) ok (by kernel_rfl) (by kernel_rfl) <| Ts_cons <| T_name e1 <| Ts_cons <| T_cint <| Ts_nil <| OC_x3 (c_coin ok hC₁ 50 (by decide)) (lowOk (by exact tT)) .never fun c σ₂ ll _ _ hC₂ ho₂ => ?_
      exact Ts_nil ⟨[.str "i", .int c], rfl, leT tT, datLow _, ⟨.int c, S, rfl, hS₁.off (Off.refl.mix ho₂) (by exact tT), (Le.refl S).up (by lia), trivial, by show 1 ≤ szP n; lia, by show 1 ≤ n + 5; lia⟩, hC₂, o₁.mix (ho₂.mono (by exact tT))⟩
    refine S_cons <| X_if <| TT_cmp <| T_name e4 <| T_cint <| O_eqi ⟨_, rfl, fun h5 => ?_, fun h5 => S_nil ?_⟩
    · exact S_cons <| X_retK kR <| T_def (a := 423) ok (by kernel_rfl) (by kernel_rfl) <| Ts_cons <| T_name e1 <| Ts_cons <| T_name e2 <| Ts_nil <| OC_of (c_row ok hS₁ hB (by lia) hC₁) (lowOk (by exact tT)) .never fun l σ₂ ll ⟨⟨t, S', hl, hS₂, hle, ht, htl, htz⟩, hC₂, ho₂⟩ => ⟨ll, ⟨t, S', hl, hS₂.mix, hle.up (by lia), ht, by lia, by have := t.dep_le; lia⟩, hC₂, o₁.mix (ho₂.mono (by exact tT))⟩
    have hn6 : way ≠ 6 := by simpa using h6
    have hn5 : way ≠ 5 := by simpa using h5
    refine S_cons <| X_if <| TT_cmp <| T_name e4 <| T_cint <| O_lt ⟨_, rfl, fun h4 => ?_, fun h4 => S_nil ?_⟩
    · have hlt : way < 5 := of_decide_eq_true h4
      refine S_cons <| X_assign <| T_list <| Ts_cons <| T_tuple <| Ts_cons <| T_cstr <| Ts_cons <| T_symM (f := 88) ok e2 hS₁.s1 hS₁.s2 rfl (Ts_cons <| T_cstr <| Ts_nil <| OC_e2 (c_atom ok hS₁ (by lia) "n") (lowOk (by exact tT)) .never fun σ₂ ll hS₂ ho₂ => ?_) (by decide)
      have hS₂' : SymAt (mix σ₂ τ) (S.atom "n").1 := hS₂.mix
      have hle := S.atom_le "n"
      have sz := hle.size
      have hB₂ := hB.mono hle
      have o₂ := o₁.mix (ho₂.mono (M := [0, 3, 4, 5, 6]) (by exact tT))
      have hC₂ : CoinsAt 2000 (mix σ₂ τ) := hC₁.off (Off.refl.mix ho₂) (by exact tT)
      generalize mix σ₂ τ = τ at *
      generalize (S.atom "n").1 = S₂ at *
      refine Ts_nil ⟨[.str "a", .int (S.atom "n").2], rfl, leT tT, Ts_cons <| T_tuple <| Ts_cons <| T_cstr <| Ts_cons <| T_num_ 15 ok <| Ts_nil ⟨[.str "a", .int 15], rfl, leT tT, Ts_cons <| T_tuple <| Ts_cons <| T_cstr <| Ts_cons <| T_cint <| Ts_nil ⟨[.str "v", .int 1], rfl, leT tT, ?_⟩⟩⟩
      refine Ts_cons <| T_tuple <| Ts_cons <| T_cstr <| Ts_cons <| T_num_ 9 ok <| Ts_cons <| T_tuple <| Ts_cons <| T_tuple <| Ts_cons <| T_cstr <| Ts_cons <| T_cint <| Ts_nil ⟨[.str "i", .int 5], rfl, leT tT, Ts_nil ⟨[(Tm.int 5).enc], rfl, leT tT, Ts_nil ⟨[.str "s", .int 9, .tuple [(Tm.int 5).enc]], rfl, leT tT, ?_⟩⟩⟩
      refine Ts_cons <| T_tuple <| Ts_cons <| T_cstr <| Ts_cons <| T_symM (f := 109) ok e2 hS₂'.s1 hS₂'.s2 rfl (Ts_cons <| T_cstr <| Ts_cons <| T_cint <| Ts_nil <| OC_e2 (c_func ok hS₂' (by lia) "p" 1) (lowOk (by exact tT)) .never fun σ₃ ll hS₃ ho₃ => ?_) (by decide)
      have hS₃' : SymAt (mix σ₃ τ) (S₂.func "p" 1).1 := hS₃.mix
      have hle' := S₂.func_le "p" 1
      have hB₃ := hB₂.mono hle'
      have hfa := (S₂.atom "p").1.functor_at (S₂.atom "p").2 1
      refine Ts_cons <| T_tuple <| Ts_cons <| T_tuple <| Ts_cons <| T_cstr <| Ts_cons <| T_cint <| Ts_nil ⟨[.str "i", .int 6], rfl, leT tT, Ts_nil ⟨[(Tm.int 6).enc], rfl, leT tT, Ts_nil ⟨[.str "s", .int (S₂.func "p" 1).2, .tuple [(Tm.int 6).enc]], rfl, leT tT, ?_⟩⟩⟩
      refine Ts_nil ⟨[(Tm.atom (S.atom "n").2).enc, (Tm.atom 15).enc, (Tm.var 1).enc, (Tm.s1 9 (.int 5)).enc, (Tm.s1 (S₂.func "p" 1).2 (.int 6)).enc], rfl, leT tT, ?_⟩
      obtain ⟨t, ht, hok, htz⟩ : ∃ t : Tm, [(Tm.atom (S.atom "n").2).enc, (Tm.atom 15).enc, (Tm.var 1).enc, (Tm.s1 9 (.int 5)).enc, (Tm.s1 (S₂.func "p" 1).2 (.int 6)).enc][way.toNat]? = some t.enc ∧ Ok (S₂.func "p" 1).1 t ∧ t.size ≤ 2 := by
        rcases (by lia : way = 0 ∨ way = 1 ∨ way = 2 ∨ way = 3 ∨ way = 4) with rfl | rfl | rfl | rfl | rfl
        · exact ⟨.atom _, rfl, trivial, Nat.le_of_ble_eq_true rfl⟩
        · exact ⟨.atom 15, rfl, trivial, Nat.le_of_ble_eq_true rfl⟩
        · exact ⟨.var 1, rfl, trivial, Nat.le_of_ble_eq_true rfl⟩
        · exact ⟨.s1 9 (.int 5), rfl, ⟨base_at hB₃ (f := 9) rfl, trivial⟩, Nat.le_of_ble_eq_true rfl⟩
        · exact ⟨.s1 _ (.int 6), rfl, ⟨⟨hfa.1, _, hfa.2⟩, trivial⟩, Nat.le_of_ble_eq_true rfl⟩
      exact S_cons <| X_retK kR <| T_sub <| T_name (lkp_same rfl) <| T_name ((lkp_ne rfl).trans e4) <| O_itemL hw0 ht ⟨datLow _, ⟨t, _, rfl, hS₃', (hle.trans hle').up (by lia), hok, by lia, by have := t.dep_le; lia⟩, hC₂.off (Off.refl.mix ho₃) (by exact tT), o₂.mix (ho₃.mono (by exact tT))⟩ (by lia)
    have hge5 : ¬ way < 5 := of_decide_eq_false h4
    obtain ⟨hn, hw12⟩ : 0 < n ∧ way < 12 := hw.resolve_left (by lia)
    obtain ⟨k, rfl⟩ : ∃ k, n = k + 1 := ⟨n - 1, by lia⟩
    have hrk : LPart cx k := hrec k rfl
    have lek : leP (k + 1) = 2 * leP k + 4 := rfl
    have szk : szP (k + 1) = 2 * szP k + 1 := rfl
    have hk1 : ((k + 1 : Nat) : Int) - 1 = (k : Int) := by lia
    refine S_cons <| X_assign <| T_def (a := 430) ok (by kernel_rfl) (by kernel_rfl) <| Ts_cons <| T_name e1 <| Ts_cons <| T_name e2 <| Ts_cons <| T_bin <| T_name e3 <| T_cint <| O_sub ?_
    rw [hk1]
    refine Ts_nil <| OC_of (hrk hS₁ hB (by lia) hC₁) (lowOk (by exact tT)) .never fun l σ₂ ll ⟨⟨t, S₂, hl, hS₂, hle, ht, htz, htd⟩, hC₂, ho₂⟩ => ?_
    subst hl
    have hS₂' : SymAt (mix σ₂ τ) S₂ := hS₂.mix
    have sz := hle.size
    have hB₂ := hB.mono hle
    have o₂ := o₁.mix (ho₂.mono (M := [0, 3, 4, 5, 6]) (by exact tT))
    have hC₂' : CoinsAt 2000 (mix σ₂ τ) := hC₂
    generalize mix σ₂ τ = τ at *
    have f1 := (lkp_ne (x := "left") (v := LV.dat t.enc) rfl).trans e1
    have f2 := (lkp_ne (x := "left") (v := LV.dat t.enc) rfl).trans e2
    have f3 := (lkp_ne (x := "left") (v := LV.dat t.enc) rfl).trans e3
    have f4 := (lkp_ne (x := "left") (v := LV.dat t.enc) rfl).trans e4
    have f5 : lk (putl m "left" (.dat t.enc)) "left" = some (.dat t.enc) := lkp_same rfl
    show TS _ _ _ _ _ (putl m "left" (.dat t.enc)) _ _
    generalize putl m "left" (.dat t.enc) = m at f1 f2 f3 f4 f5
    refine S_cons <| X_if <| TT_cmp <| T_name f4 <| T_cint <| O_eqi ⟨_, rfl, fun h7 => ?_, fun h7 => S_nil ?_⟩
    · exact S_cons <| X_retK kR <| T_tuple <| Ts_cons <| T_cstr <| Ts_cons <| T_num_ 4 ok <| Ts_cons <| T_tuple <| Ts_cons <| T_name f5 <| Ts_nil ⟨[t.enc], rfl, leT tT, Ts_nil ⟨[.str "s", .int 4, .tuple [t.enc]], rfl, leT tT, datLow _, ⟨.s1 4 t, S₂, rfl, hS₂', hle.up (by lia), ⟨base_at hB₂ (f := 4) rfl, ht⟩, by show t.size + 1 ≤ szP (k + 1); lia, by show t.dep + 1 ≤ k + 1 + 5; lia⟩, hC₂', o₂⟩⟩
    have hn7 : way ≠ 7 := by simpa using h7
    refine S_cons <| X_assign <| T_sub <| T_list <| Ts_cons <| T_num_ 1 ok <| Ts_cons <| T_num_ 2 ok <| Ts_cons <| T_symM (f := 102) ok f2 hS₂'.s1 hS₂'.s2 rfl (Ts_cons <| T_num_ 8 ok <| Ts_cons <| T_cint <| Ts_nil <| OC_e2 (c_functor ok hS₂' (by lia) 8 2) (lowOk (by exact tT)) .never fun σ₃ ll hS₃ ho₃ => ?_) (by decide)
    have hS₃' : SymAt (mix σ₃ τ) (S₂.functor 8 2).1 := hS₃.mix
    have hle₃ := S₂.functor_le 8 2
    have sz₃ := hle₃.size
    have hB₃ := hB₂.mono hle₃
    have hfa := S₂.functor_at 8 2
    have o₃ := o₂.mix (ho₃.mono (M := [0, 3, 4, 5, 6]) (by exact tT))
    have hC₃ : CoinsAt 2000 (mix σ₃ τ) := hC₂'.off (Off.refl.mix ho₃) (by exact tT)
    generalize mix σ₃ τ = τ at *
    generalize (S₂.functor 8 2).1 = S₃ at *
    generalize (S₂.functor 8 2).2 = bar at *
    refine Ts_cons <| T_num_ 3 ok <| Ts_nil ⟨[.int 1, .int 2, .int bar, .int 3], rfl, leT tT, T_bin <| T_name f4 <| T_cint <| O_sub ?_⟩
    obtain ⟨f, hf, hfar, hf0⟩ : ∃ f : Int, [PyData.int 1, .int 2, .int bar, .int 3][(way - 8).toNat]? = some (.int f) ∧ Arity S₃ f 2 ∧ f ≠ 0 := by
      rcases (by lia : way = 8 ∨ way = 9 ∨ way = 10 ∨ way = 11) with rfl | rfl | rfl | rfl
      · exact ⟨1, rfl, base_at hB₃ (f := 1) rfl, by decide⟩
      · exact ⟨2, rfl, base_at hB₃ (f := 2) rfl, by decide⟩
      · refine ⟨bar, rfl, ⟨hfa.1, _, hfa.2⟩, ?_⟩
        rintro rfl
        obtain ⟨r, er⟩ := hB₃
        rw [er] at hfa
        exact absurd hfa.2 (by simp [funs0])
      · exact ⟨3, rfl, base_at hB₃ (f := 3) rfl, by decide⟩
    refine O_itemL (by lia) hf ?_ (by lia)
    refine S_cons <| X_retK kR <| T_tuple <| Ts_cons <| T_cstr <| Ts_cons <| T_name (lkp_same rfl) <| Ts_cons <| T_tuple <| Ts_cons <| T_name ((lkp_ne rfl).trans f5) <| Ts_cons <| T_def (a := 430) ok (by kernel_rfl) (by kernel_rfl) <| Ts_cons <| T_name ((lkp_ne rfl).trans f1) <| Ts_cons <| T_name ((lkp_ne rfl).trans f2) <| Ts_cons <| T_bin <| T_name ((lkp_ne rfl).trans f3) <| T_cint <| O_sub ?_
    rw [hk1]
    refine Ts_nil <| OC_of (hrk hS₃' hB₃ (by lia) hC₃) (lowOk (by exact tT)) .never fun l σ₄ ll ⟨⟨u, S₄, hl, hS₄, hle₄, hu, huz, hud⟩, hC₄, ho₄⟩ => ?_
    subst hl
    exact Ts_nil ⟨[t.enc, u.enc], rfl, leT tT, Ts_nil ⟨[.str "s", .int f, .tuple [t.enc, u.enc]], rfl, leT tT, datLow _, ⟨.s2 f t u, S₄, rfl, hS₄.mix, ((hle.trans hle₃).trans hle₄).up (by lia), ⟨hfar.mono hle₄, fun q => absurd q hf0, (ht.mono hle₃).mono hle₄, hu⟩, by show t.size + u.size + 1 ≤ szP (k + 1); lia, by show max t.dep u.dep + 1 ≤ k + 1 + 5; lia⟩, hC₄, o₃.mix (ho₄.mono (by exact tT))⟩⟩
  · decide +kernel
theorem c_lpart (ok : CxOk cx) : ∀ n, LPart cx n := by
  intro n
  induction n with
  | zero => exact lpart_step ok 0 (fun k h => by cases h)
  | succ n ih => exact lpart_step ok (n + 1) (fun k h => by cases h; exact ih)
end
theorem dget_pre {α : Type} [DecidableEq α] {xs t : List α} {x : α} {i : Int} (h : dget (numL xs) x = some i) : dget (numL (xs ++ t)) x = some i := by
  have key : ∀ (xs : List α) (k : Nat), dget (numF k xs) x = some i → dget (numF k (xs ++ t)) x = some i := by
    intro xs
    induction xs with
    | nil => intro k h; cases h
    | cons y r ih =>
      intro k h
      show dget ((y, (k : Int)) :: numF (k + 1) (r ++ t)) x = some i
      have h' : dget ((y, (k : Int)) :: numF (k + 1) r) x = some i := h
      rw [dget_cons] at h' ⊢
      by_cases e : y = x
      · rw [if_pos e] at h' ⊢; exact h'
      · rw [if_neg e] at h' ⊢; exact ih _ h'
  exact key xs 0 h
theorem dget_last {α : Type} [DecidableEq α] {xs : List α} {x : α} (h : dget (numL xs) x = none) : dget (numL (xs ++ [x])) x = some (xs.length : Int) := by
  rw [numL_snoc, dget_app, h, if_pos rfl]; rfl
theorem atom_reg {S T : Sy} {x : Str} {c : Nat} (h : Le c (S.atom x).1 T) : T.atom x = (T, (S.atom x).2) := by
  obtain ⟨t, ht⟩ := h.texts
  have key : dget (numL T.texts) x = some (S.atom x).2 := by
    rw [ht]
    refine dget_pre ?_
    unfold Sy.atom
    cases e : dget (numL S.texts) x with
    | some i => exact e
    | none => exact dget_last e
  show (match dget (numL T.texts) x with | some i => (T, i) | none => (⟨T.texts ++ [x], T.funs⟩, (T.texts.length : Int))) = _
  rw [key]
theorem functor_reg {S T : Sy} {a n : Int} {c : Nat} (h : Le c (S.functor a n).1 T) : T.functor a n = (T, (S.functor a n).2) := by
  obtain ⟨t, ht⟩ := h.funs
  have key : dget (numL T.funs) [a, n] = some (S.functor a n).2 := by
    rw [ht]
    refine dget_pre ?_
    unfold Sy.functor
    cases e : dget (numL S.funs) [a, n] with
    | some i => exact e
    | none => exact dget_last e
  show (match dget (numL T.funs) [a, n] with | some i => (T, i) | none => (⟨T.texts, T.funs ++ [[a, n]]⟩, (T.funs.length : Int))) = _
  rw [key]
theorem func_reg {S T : Sy} {x : Str} {n : Int} {c : Nat} (h : Le c (S.func x n).1 T) : T.func x n = (T, (S.func x n).2) := by
  have h1 := atom_reg (((S.atom x).1.functor_le (S.atom x).2 n).trans h)
  unfold Sy.func
  rw [h1]
  exact functor_reg h
noncomputable def Flt.form (S : Sy) : Flt → PyData
  | .inst => instOf S
  | .callable t => errOf S "callable" t.enc
  | .list t => errOf S "list" t.enc
theorem ball_form (S : Sy) (F : Flt) : F.ball S = ballOf (F.form S) := by cases F <;> rfl
noncomputable def dueOf (S : Sy) : Option Flt → PyData
  | none => .none
  | some F => F.form S
noncomputable def RegF (S : Sy) (F : Option Flt) : Prop := ∀ c T, Le c S T → dueOf T F = dueOf S F
theorem regNone (S : Sy) : RegF S none := fun _ _ _ => rfl
theorem inst_reg {S T : Sy} {c : Nat} (h : Le c (S.atom "instantiation_error").1 T) : instOf T = .tuple [.str "a", .int (S.atom "instantiation_error").2] := by
  unfold instOf; rw [atom_reg h]
theorem err_reg {S T : Sy} {kind : Str} {culprit : PyData} {c : Nat} (h : Le c ((S.func "type_error" 2).1.atom kind).1 T) :
    errOf T kind culprit = .tuple [.str "s", .int (S.func "type_error" 2).2, .tuple [.tuple [.str "a", .int ((S.func "type_error" 2).1.atom kind).2], culprit]] := by
  unfold errOf
  rw [atom_reg h]
  rw [func_reg (((S.func "type_error" 2).1.atom_le kind).trans h)]
theorem isNone_form (S : Sy) (F : Flt) : isNoneB (.dat (F.form S)) = false := by cases F <;> rfl
section
variable {cx : Cx} {σ : Store}
theorem c_lfault (ok : CxOk cx) {S : Sy} (hS : SymAt σ S) (hB : Base S) (hz : S.size ≤ 50000) (t : Tm) (ht : Ok S t) (hl : Leaf t.end_) : TC cx 2 (.ref 437) [.loc 1, .dat t.enc] σ (fun l σ' => (∃ S', l = .dat (dueOf S' (listFault t)) ∧ SymAt σ' S' ∧ Le 3 S S' ∧ RegF S' (listFault t)) ∧ Off [3, 4, 5, 6] σ σ') (fun _ => False) := by
  refine TC_fn2 (d := 2) (ls := [.loc 1, .dat t.enc]) ok (show _ = some (o437_9 cx.w.params) by kernel_rfl) (by kernel_rfl) ["signs", "term"] ?_ ?_ (by decide) ?_ ?_
  · exact bnd2 fun _ _ _ => BindsTo.of_eq rfl
  · decide +kernel
  · intro fD fE fK eE kR kN
    have hS' := hS.low
    refine S_cons <| X_assign <| T_name (l := .dat t.enc) rfl ?_
    refine S_cons <| X_while (.exE eE) (fun n m τ => ∃ u : Tm, n = u.size ∧ lk m "end" = some (.dat u.enc) ∧ lk m "signs" = some (.loc 1) ∧ lk m "term" = some (.dat t.enc) ∧ u.end_ = t.end_ ∧ Ok S u ∧ τ = low σ) t.size ⟨t, rfl, rfl, rfl, rfl, rfl, ht, rfl⟩ ?_
    intro n m τ j
    obtain ⟨u, j⟩ := j
    refine and7 j fun j0 e1 e2 e3 hu hok j6 => ?_
    clear j
    subst j0
    subst j6
    refine TT.mono (Q := fun c τ' => τ' = low σ ∧ c = (sb u.tag "s" && (u.num == 0))) (TT_and (TT_tagIs e1 ⟨fun hs => TT_and (TT_cmp (T_num (T_name e1 ⟨u, rfl, T_num_ 0 ok (O_eqi ⟨_, rfl, fun hd => TT_and0 ⟨rfl, ?_⟩, fun hd => ⟨rfl, ?_⟩⟩)⟩))), fun hs => ⟨rfl, ?_⟩⟩)) ?_
    · rw [show sb u.tag "s" = true from hs, hd]; rfl
    · rw [show sb u.tag "s" = true from hs, hd]; rfl
    · rw [show sb u.tag "s" = false from hs]; rfl
    rintro c τ' ⟨rfl, rfl⟩
    refine ⟨fun hc => ?_, fun hc => ?_⟩
    · obtain ⟨hs, hd⟩ := Bool.and_eq_true_iff.mp hc
      have hd' : u.num = 0 := by simpa using hd
      obtain ⟨x, y, rfl⟩ : ∃ x y, u = .s2 0 x y := by
        cases u with
        | s2 f x y => exact ⟨x, y, by rw [show f = 0 from hd']⟩
        | s1 f x =>
          have : f = 0 := hd'
          subst this
          exact absurd (base_ar hB (f := 0) rfl hok.1) (by decide)
        | _ => exact absurd hs Bool.false_ne_true
      have sz : (Tm.s2 0 x y).size = x.size + y.size + 1 := rfl
      refine S_cons <| X_assign <| T_item1 <| T_args <| T_name e1 ⟨_, rfl, rfl, x.enc, y.enc, [], rfl, S_nil ⟨y.size, by lia, y, rfl, lkp_same rfl, (lkp_ne rfl).trans e2, (lkp_ne rfl).trans e3, hu, hok.2.2.2, rfl⟩⟩
    · have he : u.end_ = u := by
        cases u with
        | s2 f x y =>
          unfold Tm.end_
          rw [if_neg]
          intro q
          subst q
          cases hc
        | _ => rfl
      have hue : u = t.end_ := he.symm.trans hu
      have hleaf : Leaf u := hue ▸ hl
      refine S_cons <| X_if <| TT_tagIs e1 ⟨fun hv => ?_, fun hv => S_nil ?_⟩
      · have hlf : listFault t = some .inst := by
          unfold listFault
          rw [← hue]
          revert hv
          cases u <;> intro hv <;> first | rfl | exact absurd hv Bool.false_ne_true
        refine S_cons <| X_retK kR <| T_tuple <| Ts_cons <| T_cstr <| Ts_cons <| T_symM (f := 88) ok e2 hS'.s1 hS'.s2 rfl (Ts_cons <| T_cstr <| Ts_nil <| OC_e2 (c_atom ok hS' (by lia) "instantiation_error") (lowOk (by exact tT)) .never fun σ₂ ll hS₂ ho₂ => ?_) (by decide)
        refine Ts_nil ⟨[.str "a", .int (S.atom "instantiation_error").2], rfl, leT tT, datLow _, ⟨(S.atom "instantiation_error").1, ?_, hS₂.mix, (S.atom_le _).up (by lia), ?_⟩, Off.low.trans ((Off.refl.mix ho₂).mono (by exact tT))⟩
        · rw [hlf]
          exact congrArg LV.dat (inst_reg (Le.refl _)).symm
        · rw [hlf]
          exact fun c T h => (inst_reg h).trans (inst_reg (Le.refl _)).symm
      refine S_cons <| X_if <| TT_cmp <| T_name e1 <| T_tuple <| Ts_cons <| T_cstr <| Ts_cons <| T_num_ 0 ok <| Ts_nil ⟨[.str "a", .int 0], rfl, leT tT, O_eqd (shaped_leaf hleaf) (shaped_leaf (t := .atom 0) trivial) ⟨_, rfl, fun hc => ?_, fun hc => S_nil ?_⟩⟩
      · have hlf : listFault t = none := by
          unfold listFault
          rw [← hue]
          revert hv hc hleaf
          cases u with
          | atom n =>
            intro _ hv hc
            have w : PyData.eqv (Tm.atom n).enc (.tuple [.str "a", .int 0]) = (n == 0) := by simp [Tm.enc, PyData.eqv, PyData.eqvAll]
            rw [w] at hc
            show (if n = 0 then none else _) = none
            rw [if_pos (by simpa using hc)]
          | var k => intro _ hv; exact absurd hv (Ne.symm Bool.false_ne_true)
          | int k =>
            intro _ _ hc
            have w : PyData.eqv (Tm.int k).enc (.tuple [.str "a", .int 0]) = false := by
              simp only [Tm.enc, PyData.eqv, PyData.eqvAll, Bool.and_eq_false_iff]
              left; decide +kernel
            rw [w] at hc; cases hc
          | _ => intro h; exact h.elim
        exact S_cons <| X_retK kR <| T_cnone ⟨datLow _, ⟨S, by rw [hlf]; rfl, hS', (Le.refl S).up (by lia), by rw [hlf]; exact regNone S⟩, .low⟩
      · have hlf : listFault t = some (.list t) := by
          unfold listFault
          rw [← hue]
          revert hv hc hleaf
          cases u with
          | atom n =>
            intro _ hv hc
            have w : PyData.eqv (Tm.atom n).enc (.tuple [.str "a", .int 0]) = (n == 0) := by simp [Tm.enc, PyData.eqv, PyData.eqvAll]
            rw [w] at hc
            show (if n = 0 then none else _) = _
            rw [if_neg (by simpa using hc)]
          | var k => intro _ hv; exact absurd hv (Ne.symm Bool.false_ne_true)
          | int k => intro _ _ _; rfl
          | _ => intro h; exact h.elim
        refine S_cons <| X_retK kR <| T_tuple <| Ts_cons <| T_cstr <| Ts_cons <| T_symM (f := 109) ok e2 hS'.s1 hS'.s2 rfl (Ts_cons <| T_cstr <| Ts_cons <| T_cint <| Ts_nil <| OC_e2 (c_func ok hS' (by lia) "type_error" 2) (lowOk (by exact tT)) .never fun σ₂ ll hS₂ ho₂ => ?_) (by decide)
        have hS₂' : SymAt (mix σ₂ (low σ)) (S.func "type_error" 2).1 := hS₂.mix
        have hle := S.func_le "type_error" 2
        have sz := hle.size
        refine Ts_cons <| T_tuple <| Ts_cons <| T_tuple <| Ts_cons <| T_cstr <| Ts_cons <| T_symM (f := 88) ok e2 hS₂'.s1 hS₂'.s2 rfl (Ts_cons <| T_cstr <| Ts_nil <| OC_e2 (c_atom ok hS₂' (by lia) "list") (lowOk (by exact tT)) .never fun σ₃ ll hS₃ ho₃ => ?_) (by decide)
        refine Ts_nil ⟨[.str "a", .int ((S.func "type_error" 2).1.atom "list").2], rfl, leT tT, Ts_cons <| T_name e3 <| Ts_nil ⟨[.tuple [.str "a", .int ((S.func "type_error" 2).1.atom "list").2], t.enc], rfl, leT tT, Ts_nil ⟨[.str "s", .int (S.func "type_error" 2).2, .tuple [.tuple [.str "a", .int ((S.func "type_error" 2).1.atom "list").2], t.enc]], rfl, leT tT, datLow _, ⟨((S.func "type_error" 2).1.atom "list").1, ?_, hS₃.mix, (hle.trans (Sy.atom_le _ _)).up (by lia), ?_⟩, (Off.low.trans ((Off.refl.mix ho₂).mono (by exact tT))).mix (ho₃.mono (by exact tT))⟩⟩⟩
        · rw [hlf]
          exact congrArg LV.dat (err_reg (Le.refl _)).symm
        · rw [hlf]
          exact fun c T h => (err_reg h).trans (err_reg (Le.refl _)).symm
  · decide +kernel
end
theorem total_take_le : ∀ (ts : List Tm) (i : Nat), total (ts.take i) ≤ total ts
  | [], i => by simp [total]
  | t :: r, 0 => by simp [total]
  | t :: r, i + 1 => by
    have := total_take_le r i
    show t.size + total (r.take i) ≤ t.size + total r
    omega
theorem total_take_succ {ts : List Tm} {i : Nat} {u : Tm} (h : ts[i]? = some u) : total (ts.take (i + 1)) = total (ts.take i) + u.size := by
  rw [List.take_add_one, h, total_app]; rfl
theorem stackF_take_succ {S : Sy} {ts : List Tm} {i : Nat} {u : Tm} (h : ts[i]? = some u) : stackF S (ts.take (i + 1)) = (stackF S (ts.take i)).or (partFault S u) := by
  rw [List.take_add_one, h, stackF_app]
  show _ = _
  congr 1
  exact Option.or_none
theorem stackF_hit {S : Sy} : ∀ {ts : List Tm} {i : Nat} {u : Tm} {F : Flt}, ts[i]? = some u → stackF S (ts.take i) = none → partFault S u = some F → stackF S ts = some F
  | t :: r, 0, u, F, h, _, hF => by
    cases h
    show (partFault S t).or _ = _
    rw [hF]; rfl
  | t :: r, i + 1, u, F, h, hn, hF => by
    have hn' : (partFault S t).or (stackF S (r.take i)) = none := hn
    obtain ⟨h1, h2⟩ := Option.or_eq_none_iff.mp hn'
    show (partFault S t).or (stackF S r) = _
    rw [h1, stackF_hit (ts := r) h h2 hF]; rfl
noncomputable def PF (cx : Cx) (t : Tm) : Prop := ∀ {σ : Store} {S : Sy}, SymAt σ S → Base S → S.size + 8 * t.size ≤ 50000 → Ok S t → TC cx (t.size + 3) (.ref 444) [.loc 1, .dat t.enc] σ (fun l σ' => (∃ S', l = .dat (dueOf S' (partFault S t)) ∧ SymAt σ' S' ∧ Le (4 * t.size) S S' ∧ RegF S' (partFault S t)) ∧ Off [3, 4, 5, 6] σ σ') (fun _ => False)
section
variable {cx : Cx}
set_option maxHeartbeats 2000000 in
theorem pf_step (ok : CxOk cx) (t : Tm) (hrec : ∀ u ∈ t.subs, PF cx u) : PF cx t := by
  intro σ S hS hB hz ht
  have hpos := t.size_pos
  refine TC_fn2 (d := t.size + 3) (ls := [.loc 1, .dat t.enc]) ok (show _ = some (o444_9 cx.w.params) by kernel_rfl) (by kernel_rfl) ["signs", "term"] ?_ ?_ (by decide) ?_ ?_
  · exact bnd2 fun _ _ _ => BindsTo.of_eq rfl
  · decide +kernel
  · intro fD fE fK eE kR kN
    have hS' := hS.low
    refine S_cons <| X_if <| TT_tagIs (t := t) rfl ⟨fun hi => ?_, fun hi => S_nil ?_⟩
    · obtain ⟨k, rfl⟩ : ∃ k, t = .int k := by cases t <;> first | exact ⟨_, rfl⟩ | exact absurd hi Bool.false_ne_true
      refine S_cons <| X_retK kR <| T_tuple <| Ts_cons <| T_cstr <| Ts_cons <| T_symM (f := 109) ok rfl hS'.s1 hS'.s2 rfl (Ts_cons <| T_cstr <| Ts_cons <| T_cint <| Ts_nil <| OC_e2 (c_func ok hS' (by omega) "type_error" 2) (lowOk (by exact tT)) .never fun σ₂ ll hS₂ ho₂ => ?_) (by decide)
      have hS₂' : SymAt (mix σ₂ (low σ)) (S.func "type_error" 2).1 := hS₂.mix
      have hle := S.func_le "type_error" 2
      have sz := hle.size
      refine Ts_cons <| T_tuple <| Ts_cons <| T_tuple <| Ts_cons <| T_cstr <| Ts_cons <| T_symM (f := 88) ok rfl hS₂'.s1 hS₂'.s2 rfl (Ts_cons <| T_cstr <| Ts_nil <| OC_e2 (c_atom ok hS₂' (by omega) "callable") (lowOk (by exact tT)) .never fun σ₃ ll hS₃ ho₃ => ?_) (by decide)
      refine Ts_nil ⟨[.str "a", .int ((S.func "type_error" 2).1.atom "callable").2], rfl, leT tT, Ts_cons <| T_name (l := .dat (Tm.int k).enc) rfl <| Ts_nil ⟨[.tuple [.str "a", .int ((S.func "type_error" 2).1.atom "callable").2], (Tm.int k).enc], rfl, leT tT, Ts_nil ⟨[.str "s", .int (S.func "type_error" 2).2, .tuple [.tuple [.str "a", .int ((S.func "type_error" 2).1.atom "callable").2], (Tm.int k).enc]], rfl, leT tT, datLow _, ⟨((S.func "type_error" 2).1.atom "callable").1, ?_, hS₃.mix, (hle.trans (Sy.atom_le _ _)).up (by omega), ?_⟩, (Off.low.trans ((Off.refl.mix ho₂).mono (by exact tT))).mix (ho₃.mono (by exact tT))⟩⟩⟩
      · exact congrArg LV.dat (err_reg (Le.refl _)).symm
      · exact fun c T h => (err_reg h).trans (err_reg (Le.refl _)).symm
    refine S_cons <| X_if <| TT.mono (Q := fun c τ' => τ' = low σ ∧ c = (!sb t.tag "s" || t.num == 9)) (TT_or <| TT_cmp <| T_tag <| T_name (l := .dat t.enc) rfl ⟨t, rfl, T_cstr <| O_nes ⟨_, rfl, fun h => TT_or <| TT_cmp <| T_num <| T_name (l := .dat t.enc) rfl ⟨t, rfl, T_num_ 9 ok <| O_eqi ⟨_, rfl, fun h' => TT_or0 ⟨rfl, ?_⟩, fun h' => ⟨rfl, ?_⟩⟩⟩, fun h => ⟨rfl, ?_⟩⟩⟩) ?_
    · rw [show (!sb t.tag "s") = false from h, h']; rfl
    · rw [show (!sb t.tag "s") = false from h, h']; rfl
    · rw [show (!sb t.tag "s") = true from h]; rfl
    rintro c τ' ⟨rfl, rfl⟩
    refine ⟨fun hc => ?_, fun hc => S_nil ?_⟩
    · have hn : partFault S t = none := by
        cases t with
        | int k => exact absurd hi (Ne.symm Bool.false_ne_true)
        | atom k => rfl
        | var k => rfl
        | s1 f x =>
          have hf : f = 9 := by simpa [show sb (Tm.s1 f x).tag "s" = true from rfl, Tm.num] using hc
          subst hf
          rfl
        | s2 f x y =>
          have hf : f = 9 := by simpa [show sb (Tm.s2 f x y).tag "s" = true from rfl, Tm.num] using hc
          subst hf
          exact absurd (base_ar hB (f := 9) rfl ht.1) (by decide)
      exact S_cons <| X_retK kR <| T_cnone ⟨datLow _, ⟨S, by rw [hn]; rfl, hS', (Le.refl S).up (by omega), by rw [hn]; exact regNone S⟩, .low⟩
    obtain ⟨hs', hn9⟩ := Bool.or_eq_false_iff.mp hc
    have hs : sb t.tag "s" = true := by simpa using hs'
    refine S_cons <| X_if <| TT_cmp <| T_num <| T_name (l := .dat t.enc) rfl ⟨t, rfl, T_num_ 0 ok <| O_eqi ⟨_, rfl, fun h0 => ?_, fun h0 => S_nil ?_⟩⟩
    · have hn : t.num = 0 := by simpa using h0
      obtain ⟨x, y, rfl⟩ : ∃ x y, t = .s2 0 x y := by
        cases t with
        | s2 f x y => exact ⟨x, y, by rw [show f = 0 from hn]⟩
        | s1 f x =>
          have : f = 0 := hn
          subst this
          exact absurd (base_ar hB (f := 0) rfl ht.1) (by decide)
        | _ => exact absurd hs Bool.false_ne_true
      exact S_cons <| X_retK kR <| T_def (a := 437) ok (by kernel_rfl) (by kernel_rfl) <| Ts_cons <| T_name rfl <| Ts_cons <| T_name (l := .dat (Tm.s2 0 x y).enc) rfl <| Ts_nil <| OC_of (c_lfault ok hS' hB (by omega) (.s2 0 x y) ht (ht.2.1 rfl)) (lowOk (by exact tT)) .never fun l σ₂ ll ⟨⟨S', hl, hS₂, hle, hreg⟩, ho₂⟩ => ⟨ll, ⟨S', hl, hS₂.mix, hle.up (by omega), hreg⟩, Off.low.trans ((Off.refl.mix ho₂).mono (by exact tT))⟩
    have hn0 : t.num ≠ 0 := by simpa using h0
    refine S_cons <| X_if <| TT_cmp <| T_num <| T_name (l := .dat t.enc) rfl ⟨t, rfl, T_list <| Ts_cons <| T_num_ 1 ok <| Ts_cons <| T_num_ 2 ok <| Ts_cons <| T_symM (f := 102) ok rfl hS'.s1 hS'.s2 rfl (Ts_cons <| T_num_ 8 ok <| Ts_cons <| T_cint <| Ts_nil <| OC_e2 (c_functor ok hS' (by omega) 8 2) (lowOk (by exact tT)) .never fun σ₃ ll hS₃ ho₃ => ?_) (by decide)⟩
    have hS₁ : SymAt (mix σ₃ (low σ)) (S.functor 8 2).1 := hS₃.mix
    have o₁ : Off [3, 4, 5, 6] σ (mix σ₃ (low σ)) := Off.low.trans ((Off.refl.mix ho₃).mono (by exact tT))
    have hle1 := S.functor_le 8 2
    have sz1 := hle1.size
    have hbi : ∀ {n}, Arity S t.num n → (t.num = (S.functor 8 2).2 ↔ isBar S t.num = true) := fun h => bar_iff h hS₁.nod
    generalize mix σ₃ (low σ) = τ at *
    generalize (S.functor 8 2).2 = bar at *
    generalize (S.functor 8 2).1 = S₁ at *
    have hB₁ := hB.mono hle1
    refine Ts_cons <| T_num_ 3 ok <| Ts_cons <| T_num_ 4 ok <| Ts_nil ⟨[.int 1, .int 2, .int bar, .int 3, .int 4], rfl, leT tT, O_notinL (ks := [1, 2, bar, 3, 4]) ⟨_, rfl, fun hin => ?_, fun hin => S_nil ?_⟩⟩
    · have hno : [1, 2, bar, 3, 4].any (· == t.num) = false := by simpa using hin
      simp only [List.any_cons, List.any_nil, Bool.or_false, Bool.or_eq_false_iff, beq_eq_false_iff_ne] at hno
      obtain ⟨n1, n2, nb, n3, n4⟩ := hno
      have hn : partFault S t = none := by
        rw [plainFault_eq hB ht (.inr ⟨?_, fun q => n4 q.symm⟩)]
        · cases t with
          | s2 f x y => exact if_neg hn0
          | s1 f x => rfl
          | _ => exact absurd hs Bool.false_ne_true
        · obtain ⟨n, har⟩ : ∃ n, Arity S t.num n := by
            cases t with
            | s1 f x => exact ⟨1, ht.1⟩
            | s2 f x y => exact ⟨2, ht.1⟩
            | _ => exact absurd hs Bool.false_ne_true
          have q4 : isBar S t.num = false := by
            cases hq : isBar S t.num with
            | false => rfl
            | true => exact absurd ((hbi har).mpr hq).symm nb
          unfold ctl2
          rw [q4, beq_eq_false_iff_ne.mpr (fun q => n1 q.symm), beq_eq_false_iff_ne.mpr (fun q => n2 q.symm), beq_eq_false_iff_ne.mpr (fun q => n3 q.symm)]; rfl
      exact S_cons <| X_retK kR <| T_cnone ⟨datLow _, ⟨S₁, by rw [hn]; rfl, hS₁, hle1.up (by omega), by rw [hn]; exact regNone S₁⟩, o₁⟩
    have hyes : [1, 2, bar, 3, 4].any (· == t.num) = true := by
      cases q : [1, 2, bar, 3, 4].any (· == t.num) with
      | true => rfl
      | false => rw [q] at hin; cases hin
    have hpf : partFault S t = stackF S t.subs := by
      simp only [List.any_cons, List.any_nil, Bool.or_false, Bool.or_eq_true, beq_iff_eq] at hyes
      cases t with
      | s1 f x =>
        have hf : f = 4 := by
          have hnum : (Tm.s1 f x).num = f := rfl
          rw [hnum] at hyes hbi
          rcases hyes with h | h | h | h | h
          · subst h; exact absurd (base_ar hB (f := 1) rfl ht.1) (by decide)
          · subst h; exact absurd (base_ar hB (f := 2) rfl ht.1) (by decide)
          · have hb := (hbi ht.1).mp h.symm
            obtain ⟨_, c, ec⟩ := ht.1
            unfold isBar at hb
            rw [ec] at hb
            simp at hb
          · subst h; exact absurd (base_ar hB (f := 3) rfl ht.1) (by decide)
          · exact h.symm
        subst hf
        show partFault S x = (partFault S x).or none
        rw [Option.or_none]
      | s2 f x y =>
        have hnum : (Tm.s2 f x y).num = f := rfl
        rw [hnum] at hyes hbi hn0
        have hct : ctl2 S f = true := by
          unfold ctl2
          rcases hyes with h | h | h | h | h
          · subst h; rfl
          · subst h; rfl
          · rw [(hbi ht.1).mp h.symm]; simp
          · subst h; rfl
          · subst h; exact absurd (base_ar hB (f := 4) rfl ht.1) (by decide)
        show (if f = 0 then _ else if ctl2 S f = true then (partFault S x).or (partFault S y) else none) = (partFault S x).or ((partFault S y).or none)
        rw [if_neg hn0, if_pos hct, Option.or_none]
      | _ => exact absurd hs Bool.false_ne_true
    have hsub := t.subs_total
    have hsubok : ∀ u ∈ t.subs, Ok S u := by
      intro u hu
      cases t with
      | s1 f x => rw [List.mem_singleton.mp hu]; exact ht.2
      | s2 f x y =>
        rcases List.mem_cons.mp hu with rfl | hu
        · exact ht.2.2.1
        · rw [List.mem_singleton.mp hu]; exact ht.2.2.2
      | _ => exact absurd hs Bool.false_ne_true
    refine S_cons <| X_for (.exE eE) (by omega) <| TI_tup (by omega) <| T_args <| T_name (l := .dat t.enc) rfl ⟨t, rfl, hs, t.args, rfl, ?_⟩
    rw [t.args_subs]
    refine forL_indB _ (fun i m τ' => lk m "signs" = some (.loc 1) ∧ ∃ S', SymAt τ' S' ∧ Le (1 + 4 * total (t.subs.take i)) S S' ∧ stackF S (t.subs.take i) = none ∧ Off [3, 4, 5, 6] σ τ') ?_ ?_ ⟨rfl, S₁, hS₁, hle1.up (by omega), rfl, o₁⟩
    · intro i y m τ' hy j
      obtain ⟨e1, S₂, j⟩ := j
      refine and4 j fun hS₂ hle₂ hnone o₂ => ?_
      clear j
      rw [List.getElem?_map] at hy
      obtain ⟨u, hu, rfl⟩ := Option.map_eq_some_iff.mp hy
      have hum := List.mem_of_getElem? hu
      have htk := total_take_succ hu
      have htl := total_take_le t.subs (i + 1)
      have sz₂ := hle₂.size
      have huo := hsubok u hum
      have pfu := partFault_mono hle₂ huo
      have hru : PF cx u := hrec u hum
      refine S_cons <| X_assign <| T_def (a := 444) ok (by kernel_rfl) (by kernel_rfl) <| Ts_cons <| T_name ((lkp_ne rfl).trans e1) <| Ts_cons <| T_name (l := .dat u.enc) (lkp_same rfl) <| Ts_nil <| OC_of (hru hS₂ (hB.mono hle₂) (by omega) (huo.mono hle₂)) (lowOk (by exact tT)) .never fun l σ₄ ll ⟨⟨S₃, hl, hS₃, hle₃, hreg⟩, ho₄⟩ => ?_
      subst hl
      rw [pfu] at hreg ⊢
      have o₃ := o₂.mix (ho₄.mono (M := [3, 4, 5, 6]) (by exact tT))
      refine S_cons <| X_if <| TT_cmp <| T_name (lkp_same rfl) <| T_cnone <| O_isnot ⟨_, rfl, fun hsome => ?_, fun hno => ?_⟩
      · obtain ⟨F, hF⟩ : ∃ F, partFault S u = some F := by
          cases e : partFault S u with
          | none => rw [e] at hsome; cases hsome
          | some F => exact ⟨F, rfl⟩
        have hfin : partFault S t = some F := by rw [hpf]; exact stackF_hit hu hnone hF
        refine S_cons <| X_retK kR <| T_name (lkp_same rfl) ⟨datLow _, ⟨S₃, ?_, hS₃.mix, (hle₂.trans hle₃).up (by omega), ?_⟩, o₃⟩
        · rw [hF, hfin]
        · rw [hfin, ← hF]; exact hreg
      · have hF : partFault S u = none := by
          cases e : partFault S u with
          | none => rfl
          | some F =>
            rw [e] at hno
            have : isNoneB (.dat (dueOf S₃ (some F))) = false := isNone_form S₃ F
            rw [this] at hno; cases hno
        exact S_nil <| S_nil ⟨(lkp_ne rfl).trans ((lkp_ne rfl).trans e1), S₃, hS₃.mix, (hle₂.trans hle₃).up (by omega), by rw [stackF_take_succ hu, hnone, hF]; rfl, o₃⟩
    · intro m τ' j
      obtain ⟨e1, S₂, j⟩ := j
      refine and4 j fun hS₂ hle₂ hnone o₂ => ?_
      clear j
      rw [List.length_map, List.take_length] at hnone hle₂
      have hfin : partFault S t = none := hpf.trans hnone
      exact S_cons <| X_retK kR <| T_cnone ⟨datLow _, ⟨S₂, by rw [hfin]; rfl, hS₂, hle₂.up (by omega), by rw [hfin]; exact regNone S₂⟩, o₂⟩
  · decide +kernel
theorem c_pfault (ok : CxOk cx) : ∀ t, PF cx t := by
  intro t
  induction t with
  | s1 f x ih => exact pf_step ok _ (fun u hu => by rw [List.mem_singleton.mp hu]; exact ih)
  | s2 f x y ih1 ih2 => exact pf_step ok _ (fun u hu => by
      rcases List.mem_cons.mp hu with rfl | hu
      · exact ih1
      · rw [List.mem_singleton.mp hu]; exact ih2)
  | _ => exact pf_step ok _ (fun u hu => by have h : u ∈ ([] : List Tm) := hu; cases h)
end
/-! the law: a call from the top, that catches -/
noncomputable def ECatch (cx : Cx) (fx : Fx) (m : Locals) (X : PyData → Prop) : Value → Shared → Prop := fun e s' => ∃ ρ σ s ball, Rel cx fx ρ m σ s ∧ X ball ∧ XOut cx fx.fs ρ s.heap ball e s'
noncomputable def Never : Value → Shared → Prop := fun _ _ => False
noncomputable def TLP (cx : Cx) : Flow → Shared → Prop := fun f s' => f = .ret (.bool true) ∧ cx.base.StaysIn s'.heap ∧ s'.gens = cx.gens ∧ s'.os = cx.os
noncomputable def TL (cx : Cx) (fx : Fx) (d : Nat) (ss : List Stmt) (m : Locals) (σ : Store) : Prop :=
  ∀ A ρ s, AOk A d fx → Rel cx fx ρ m σ s → wpAny (model PW cx.w) A (execs ss fx.env) (TLP cx) Never s
noncomputable def σX (ball : PyData) : Store := upd (upd (fun _ => .free) 16 (.ns [("ball", .dat ball)])) 15 (.exc 16 false)
noncomputable def ρX (a dd : Addr) : RM := setR (setR (fun _ => none) 16 dd) 15 a
theorem ρX_of {a dd b : Addr} {n : Nat} (h : ρX a dd n = some b) : (n = 15 ∧ b = a) ∨ (n = 16 ∧ b = dd) := by
  unfold ρX at h
  by_cases h1 : n = 15
  · subst h1; rw [setR_self] at h; exact .inl ⟨rfl, (Option.some.inj h).symm⟩
  · rw [setR_ne h1] at h
    by_cases h2 : n = 16
    · subst h2; rw [setR_self] at h; exact .inr ⟨rfl, (Option.some.inj h).symm⟩
    · rw [setR_ne h2] at h; cases h
theorem ρX_15 (a dd : Addr) : ρX a dd 15 = some a := setR_self ..
theorem ρX_16 (a dd : Addr) : ρX a dd 16 = some dd := (setR_ne (by decide)).trans (setR_self ..)
section
variable {cx : Cx} {fx : Fx} {E : Value → Shared → Prop} {d : Nat} {m : Locals} {σ : Store} {ρ : RM} {s : Shared}
theorem OC_ofM {d₀ : Nat} {f : Value} {ls : List LV} {Q Q' : LV → Store → Prop} {X : PyData → Prop} (h : TC cx d₀ f ls σ Q' X) (hl : ∀ l ∈ ls, LowL l) (hQ : ∀ l σ', LowL l → Q' l σ' → Q l (mix σ' σ)) (hd : d₀ < d := by lia) : OC cx fx (ECatch cx fx m X) d f ls m σ Q := by
  obtain ⟨k, rfl⟩ : ∃ k, d = k + 1 := ⟨d - 1, by lia⟩
  intro A ρ s vs ok R r
  refine wpAny_call ?_
  have r' : All2 (LRep (sh ρ) s.heap) ls vs := by
    clear h
    induction r with
    | nil => exact .nil
    | cons a _ ih => exact .cons (a.sh (hl _ (.head _))) (ih fun l hm => hl l (.tail _ hm))
  refine codeAny_mono ((h.mono (Nat.le_of_lt_succ hd) (fun _ _ q => q) fun _ x => x) A fx.fs (sh ρ) s vs ok.cok R.toRelC.sh r') (wants_mono (fun v s' ⟨l, σ', ρ', X, R', r, ll, q⟩ => ?_) fun e s' ⟨b, hb, x⟩ => ⟨ρ, σ, s, b, R, hb, x.sh⟩)
  obtain ⟨Y, R₂, C⟩ := R.toRelC.back X R'
  exact ⟨l, _, _, Y, R.next R₂ Y, LRep.carry C (fun n a q e => (un_lt (ll n q)).trans e) r, hQ l σ' ll q⟩
theorem TL_cons {st : Stmt} {rest : List Stmt} (h : TX cx fx Never d st m σ (fun fl m' σ' => fl = .next ∧ TL cx fx d rest m' σ')) : TL cx fx d (st :: rest) m σ := fun A ρ s ok R =>
  wpAny_execs_cons (wpAny_mono (h A ρ s ok R) (fun f s₁ ⟨fl, m₁, σ₁, ρ₁, X₁, R₁, r₁, e, q⟩ => by
    subst e
    cases f <;> first | exact r₁.elim | exact q A ρ₁ s₁ ok R₁) fun _ _ x => x)
theorem TL_ret {e : Expr} {p : Pos} {rest : List Stmt} (h : TE cx fx Never d e m σ (fun l _ => l = .dat (.bool true))) : TL cx fx d (.Return (some e) p :: rest) m σ := fun A ρ s ok R =>
  wpAny_execs_cons (wpAny_Return_some (wpAny_mono (h A ρ s ok R) (fun v s₁ ⟨l, σ₁, ρ₁, X₁, R₁, r₁, q⟩ => by
    subst q
    exact ⟨by rw [of_bool r₁], R₁.base, R₁.gens, R₁.os⟩) fun _ _ x => x))
theorem catch_rel {D ball : PyData} {es : List DictEntry} {n : Nat} {a dd : Addr} {fl : Value} {s' : Shared} {h₃ : Heap} (R : Rel cx fx ρ m σ s) (hdue : lk m "due" = some (.dat D)) (hout : fx.outer = []) (hcv : fx.cv = []) (nd : cx.base.get? dd = none) (F₃ : FlyD cx.base fx.fs a (.ref 51) dd fl h₃)
    (gd : s'.heap.get? dd = some (dictOf es n)) (nf : ∀ f ∈ fx.fs, f.frame ≠ some dd) (B : FRep (fun _ => none) s'.heap [("ball", .dat ball)] es) (vals : Carry ρ s.heap (fun _ => none) s'.heap)
    (frames : ∀ f ∈ fx.fs, ∀ b o, f.frame = some b → s.heap.get? b = some o → ∃ sl, s'.heap.get? b = some { o with slots := sl }) (gens : s'.gens = cx.gens) (os : s'.os = cx.os) (u : UpTo fx.fs s'.heap h₃) :
    Rel cx fx (ρX a dd) [("due", .dat D)] (σX ball) { s' with heap := h₃ } := by
  obtain ⟨kb, nb, ff, oe, vs, T, oT, ts, he, ⟨hcls, hdict⟩, hd, _⟩ := F₃
  have gd₃ : h₃.get? dd = some (dictOf es n) := (u dd _ gd (fun _ q => nomatch q)).2 fun hm => by
    obtain ⟨f, hf, hq⟩ := List.mem_filterMap.mp hm
    exact nf f hf hq
  have C : Carry (fun _ => none) s'.heap (ρX a dd) h₃ := by
    refine ⟨fun b o vs k e _ q => let ⟨⟨_, e'⟩, _⟩ := u b o e (fun _ z => by rw [q] at z; cases z); ⟨_, e', rfl, rfl⟩, fun b o vs k e q _ => ?_⟩
    obtain ⟨⟨sl, e'⟩, _⟩ := u b o e (fun _ z => by rw [q] at z; cases z)
    refine ⟨fun k z => ?_, _, e', rfl, rfl⟩
    rcases ρX_of z with ⟨_, rfl⟩ | ⟨_, rfl⟩
    · rw [he] at e'; cases e'
      have hd' : o.data = .fields _ := hd
      rw [q] at hd'; cases hd'
    · rw [gd] at e; cases e; cases q
  have hne : a ≠ dd := fun q => by
    rw [q, gd₃] at he; cases he; cases hd
  have oe_eq : oe = ⟨.ref 51, some dd, .fields vs, oe.slots⟩ := by
    obtain ⟨c, dct, dt, sl⟩ := oe
    obtain rfl : c = .ref 51 := hcls
    obtain rfl : dct = some dd := hdict
    obtain rfl : dt = .fields vs := hd
    rfl
  have nfa : ∀ f ∈ fx.fs, f.frame ≠ some a := fun f hf hq => by
    obtain ⟨_, o, ho, hn⟩ := ff.mem (List.mem_filterMap.mpr ⟨f, hf, hq⟩)
    rw [he] at ho; cases ho
    exact hn vs hd
  obtain ⟨mc, ⟨oL, esL, ep, eL, dL, rL⟩, M⟩ := R.fr
  obtain ⟨sl, e1⟩ := frames fx.env (.head _) fx.L oL rfl eL
  obtain ⟨⟨sl', e2⟩, _⟩ := u fx.L _ e1 (fun vs q => by have q' : oL.data = .fields vs := q; rw [dL] at q'; cases q')
  refine ⟨⟨kb, fun k b hk e => ?_, fun k b hk e => ?_, fun k e => ?_, fun k j b e1 e2 => ?_, ff, gens, os⟩, ⟨mc, ⟨_, esL, ep, e2, dL, rL⟩, fun x l e => ?_⟩, ⟨(R.hist.carry.trans vals).trans C, fun e he => by rw [hout] at he; cases he⟩, R.Lout, fun c hc => by rw [hcv] at hc; cases hc⟩
  · rcases ρX_of e with ⟨rfl, rfl⟩ | ⟨rfl, rfl⟩
    · exact ⟨nb, nfa, dd, vs, oe.slots, ρX_16 .., by decide, by rw [he, ← oe_eq], fun q => nomatch q⟩
    · exact ⟨nd, nf, es, n, gd₃, FRep.one C B⟩
  · rcases ρX_of e with ⟨rfl, _⟩ | ⟨rfl, _⟩ <;> lia
  · have h1 : k ≠ 15 := fun q => by rw [q, ρX_15] at e; cases e
    have h2 : k ≠ 16 := fun q => by rw [q, ρX_16] at e; cases e
    unfold σX
    rw [upd_ne h1, upd_ne h2]
  · rcases ρX_of e1 with ⟨rfl, rfl⟩ | ⟨rfl, rfl⟩ <;> rcases ρX_of e2 with ⟨rfl, q⟩ | ⟨rfl, q⟩
    · rfl
    · exact absurd q hne
    · exact absurd q.symm hne
    · rfl
  · rw [lk_cons] at e
    by_cases hx : ("due" : Str) = x
    · rw [if_pos hx] at e
      cases e
      obtain ⟨v, ev, r⟩ := M "due" _ hdue
      exact ⟨v, hx ▸ ev, DRep.carry C (DRep.carry vals r)⟩
    · rw [if_neg hx] at e; cases e
theorem g_perr (P : Params) : nsIn (KF P) mainGlobals "PrologError" = some (some (.ref 51)) := by kernel_rfl
end
section
variable {cx : Cx} {fx : Fx} {d : Nat} {m : Locals} {σ : Store}
theorem TL_try {body hbody rest : List Stmt} {b₀ : Stmt} {hp np p : Pos} {X : PyData → Prop} {D : PyData} (ok' : CxOk cx) (hdue : lk m "due" = some (.dat D)) (hout : fx.outer = []) (hcv : fx.cv = [])
    (hb : TS cx fx (ECatch cx fx m X) d body m σ (fun fl m' σ' => fl = .next ∧ TL cx fx d rest m' σ'))
    (hh : ∀ ball, X ball → TS cx fx Never 0 (b₀ :: hbody) (putl [("due", .dat D)] "error" (.loc 15)) (σX ball) (fun fl _ _ => fl = .ret (.dat (.bool true))))
    (hk : fx.cs.kind = .function := by rfl) (hxp : fx.env.kindOf "PrologError" = some .globalImplicit := by rfl) (hxe : fx.env.kindOf "error" = some .local := by rfl) :
    TL cx fx d (.Try body [.ExceptHandler (some (.Name "PrologError" np)) (some "error") (b₀ :: hbody) hp] [] [] p :: rest) m σ := fun A ρ s ok R => by
  refine wpAny_execs_cons (wpAny_Try_except (wpAny_mono (hb A ρ s ok R) (fun f s₁ z => ?_) fun e s₁ z => ?_))
  · obtain ⟨fl, m₁, σ₁, ρ₁, X₁, R₁, r₁, e, q⟩ := z
    subst e
    cases f <;> first | exact r₁.elim | exact wpAny_execs_nil (q A ρ₁ s₁ ok R₁)
  · obtain ⟨ρ₂, σ₂, s₂, ball, R₂, hX, x⟩ := z
    obtain ⟨⟨a, dd, es, n, rfl, nd, F₀, gd, nf, B⟩, vals, frames, gens, os⟩ := x
    refine noteD ok.frames rfl F₀ fun h₁ F₁ u₁ => flightD F₁ (fr := none) rfl fun h₂ F₂ u₂ => ?_
    refine wpAny_handleBy_cons (codeAny_handlers_test (Name_function_global hk hxp (loadGlobal_global (env := fx.env) (ok'.T.g.keeps F₂.1) (mg_of ok'.K ok'.T.g (g_perr _)) ?_) (by decide +kernel))) (by intro q; cases q)
    have hC : h₂.get? 51 = some (o51_2 cx.w.params) := F₂.1 _ _ (ok'.K _ _ (show _ = some (o51_2 cx.w.params) by kernel_rfl))
    obtain ⟨oe, vs, T, oT, ts, he, ⟨hcls, hdict⟩, hd, _⟩ := F₂.2.2.2
    obtain ⟨hh0, gg, drw, tk, oss⟩ := s₁
    refine wpAny_excMatches_sub_self (nm := sk [80, 114, 111, 108, 111, 103, 69, 114, 114, 111, 114]) (q := sk [80, 114, 111, 108, 111, 103, 69, 114, 114, 111, 114]) (C := 51) (N := 50) (bs := [.ref 31]) (bm := [.ref 31, .type "Exception", .type "BaseException", .type "object"]) hC he hcls (by decide +kernel) ?_
    refine codeAny_handlers_suite_as ?_
    refine flightD (s := ⟨h₂, gg, drw, tk, oss⟩) F₂ (fr := none) rfl fun h₃ F₃ u₃ => ?_
    have R₃ := catch_rel R₂ hdue hout hcv nd F₃ gd nf B vals frames gens os ((u₁.trans u₂).trans u₃)
    refine store_local (l := .loc 15) R₃ ⟨a, ρX_15 .., rfl⟩ hk hxe fun s₄ R₄ X₄ => ?_
    have ok₄ : AOk (A.mark (some (.ref a))) 0 fx := ⟨.inl rfl, ok.frames, by have := ok.depth; show A.depth + 0 < 990; lia, by have := ok.units; show A.units + 10 * 0 + 100 < 9900; lia, fun Γ h => by
      obtain ⟨Γ₁, i₁, c₁, b₁⟩ := SameStack.mark A (some (.ref a)) Γ h
      obtain ⟨Γ₂, i₂, c₂, b₂⟩ := ok.same Γ₁ i₁
      exact ⟨Γ₂, i₂, c₂.trans c₁, b₂.trans b₁⟩, ok.fA⟩
    refine wpAny_mono (hh ball hX _ _ _ ok₄ R₄) (fun f s₅ ⟨fl, m₅, σ₅, ρ₅, X₅, R₅, r₅, q₅⟩ => ?_) fun _ _ x => x.elim
    subst q₅
    cases f with
    | ret v =>
      have hv : v = .bool true := of_bool r₅
      subst hv
      obtain ⟨mc, hns, _⟩ := R₅.fr
      have hL : cx.base.get? fx.L = none := (R₅.ff.mem (List.mem_filterMap.mpr ⟨fx.env, .head _, rfl⟩)).1
      refine wpAny_nameGoes hxe hns (by show (fx.cs.kind == .class || (fx.cs.kind == .module && fx.L != mainGlobals)) = false; rw [hk]; rfl) fun h' m' _ hs' => ?_
      exact ⟨rfl, fun b o e => (hs'.2 b fun q => by rw [q, hL] at e; cases e).trans (R₅.base b o e), R₅.gens, R₅.os⟩
    | _ => exact r₅.elim
end
theorem lay_str (x : Str) (h : PyData.canLay0 (.str x) = true) (r : List PyData) (hr : PyData.canLayAll0 r = true) : PyData.canLayAll0 (.str x :: r) = true := by
  rw [PyData.canLayAll0, h, hr]; rfl
theorem lay_cons {d : PyData} {r : List PyData} (h : d.canLay0 = true) (hr : PyData.canLayAll0 r = true) : PyData.canLayAll0 (d :: r) = true := by
  rw [PyData.canLayAll0, h, hr]; rfl
theorem lay_tup {r : List PyData} (h : PyData.canLayAll0 r = true) : (PyData.tuple r).canLay0 = true := by rw [PyData.canLay0]; exact h
theorem lay_int (i : Int) : (PyData.int i).canLay0 = true := by rw [PyData.canLay0]
theorem lay_nil : PyData.canLayAll0 [] = true := by rw [PyData.canLayAll0]
theorem lay_s : (PyData.str "s").canLay0 = true := by decide +kernel
theorem lay_a : (PyData.str "a").canLay0 = true := by decide +kernel
theorem lay_i : (PyData.str "i").canLay0 = true := by decide +kernel
theorem lay_v : (PyData.str "v").canLay0 = true := by decide +kernel
theorem enc_lay : ∀ t : Tm, t.enc.canLay0 = true
  | .int k => lay_tup (lay_cons lay_i (lay_cons (lay_int _) lay_nil))
  | .atom k => lay_tup (lay_cons lay_a (lay_cons (lay_int _) lay_nil))
  | .var k => lay_tup (lay_cons lay_v (lay_cons (lay_int _) lay_nil))
  | .s1 f x => lay_tup (lay_cons lay_s (lay_cons (lay_int _) (lay_cons (lay_tup (lay_cons (enc_lay x) lay_nil)) lay_nil)))
  | .s2 f x y => lay_tup (lay_cons lay_s (lay_cons (lay_int _) (lay_cons (lay_tup (lay_cons (enc_lay x) (lay_cons (enc_lay y) lay_nil))) lay_nil)))
theorem enc_depth : ∀ t : Tm, t.enc.depth ≤ 2 * t.dep
  | .int k => by simp [Tm.enc, PyData.depth, PyData.depthAll, Tm.dep]
  | .atom k => by simp [Tm.enc, PyData.depth, PyData.depthAll, Tm.dep]
  | .var k => by simp [Tm.enc, PyData.depth, PyData.depthAll, Tm.dep]
  | .s1 f x => by
    have := enc_depth x
    simp [Tm.enc, PyData.depth, PyData.depthAll, Tm.dep]; lia
  | .s2 f x y => by
    have := enc_depth x
    have := enc_depth y
    simp [Tm.enc, PyData.depth, PyData.depthAll, Tm.dep]; lia
noncomputable def Flt.dep : Flt → Nat
  | .inst => 1
  | .callable t => t.dep
  | .list t => t.dep
theorem form_lay (S : Sy) (F : Flt) : (F.form S).canLay0 = true := by
  cases F with
  | inst => exact lay_tup (lay_cons lay_a (lay_cons (lay_int _) lay_nil))
  | callable t => exact lay_tup (lay_cons lay_s (lay_cons (lay_int _) (lay_cons (lay_tup (lay_cons (lay_tup (lay_cons lay_a (lay_cons (lay_int _) lay_nil))) (lay_cons (enc_lay t) lay_nil))) lay_nil)))
  | list t => exact lay_tup (lay_cons lay_s (lay_cons (lay_int _) (lay_cons (lay_tup (lay_cons (lay_tup (lay_cons lay_a (lay_cons (lay_int _) lay_nil))) (lay_cons (enc_lay t) lay_nil))) lay_nil)))
theorem form_depth (S : Sy) (F : Flt) : (F.form S).depth ≤ 2 * F.dep + 3 := by
  cases F with
  | inst => simp [Flt.form, instOf, PyData.depth, PyData.depthAll]
  | callable t =>
    have := enc_depth t
    simp [Flt.form, errOf, PyData.depth, PyData.depthAll, Flt.dep]; lia
  | list t =>
    have := enc_depth t
    simp [Flt.form, errOf, PyData.depth, PyData.depthAll, Flt.dep]; lia
theorem shaped_ball (S : Sy) {F : Flt} (h : F.dep ≤ 25) : SeqAt.shaped (ballOf (F.form S)) = true := by
  unfold SeqAt.shaped
  rw [Bool.and_eq_true]
  refine ⟨lay_tup (lay_cons lay_s (lay_cons (lay_int _) (lay_cons (lay_tup (lay_cons (form_lay S F) (lay_cons (lay_tup (lay_cons lay_a (lay_cons (lay_int _) lay_nil))) lay_nil))) lay_nil))), decide_eq_true ?_⟩
  have := form_depth S F
  simp [ballOf, PyData.depth, PyData.depthAll]; lia
theorem listFault_dep {t : Tm} {F : Flt} (h : listFault t = some F) : F.dep ≤ t.dep := by
  have hp : 1 ≤ t.dep := by cases t <;> simp [Tm.dep]
  unfold listFault at h
  split at h
  · cases h; exact hp
  · split at h
    · cases h
    · cases h; exact Nat.le_refl _
  · cases h; exact Nat.le_refl _
theorem partFault_dep {S : Sy} : ∀ {t : Tm} {F : Flt}, partFault S t = some F → F.dep ≤ t.dep
  | .int k, F, h => by cases h; exact Nat.le_refl _
  | .atom _, _, h => by cases h
  | .var _, _, h => by cases h
  | .s1 f x, F, h => by
    have h' : (if f = 4 then partFault S x else none) = some F := h
    by_cases e : f = 4
    · rw [if_pos e] at h'
      have := partFault_dep h'
      show F.dep ≤ x.dep + 1
      lia
    · rw [if_neg e] at h'; cases h'
  | .s2 f x y, F, h => by
    have h' : (if f = 0 then listFault (.s2 f x y) else if ctl2 S f = true then (partFault S x).or (partFault S y) else none) = some F := h
    by_cases e : f = 0
    · rw [if_pos e] at h'; exact listFault_dep h'
    · rw [if_neg e] at h'
      by_cases e' : ctl2 S f = true
      · rw [if_pos e'] at h'
        show F.dep ≤ max x.dep y.dep + 1
        rcases Option.or_eq_some_iff.mp h' with h1 | ⟨_, h2⟩
        · have := partFault_dep h1; lia
        · have := partFault_dep h2; lia
      · rw [if_neg e'] at h'; cases h'
theorem trFault_dep {S : Sy} {head body : Tm} {pushed : Option Tm} {F : Flt} {N : Nat} (h : trFault S head pushed body = some F) (h1 : head.dep ≤ N) (h2 : body.dep ≤ N) (h3 : ∀ p, pushed = some p → p.dep ≤ N) (h4 : 1 ≤ N) : F.dep ≤ N := by
  have key : (partFault S body).or (pushed.bind listFault) = some F → F.dep ≤ N := by
    intro h
    rcases Option.or_eq_some_iff.mp h with h1 | ⟨_, h5⟩
    · exact Nat.le_trans (partFault_dep h1) h2
    · cases pushed with
      | none => cases h5
      | some p => exact Nat.le_trans (listFault_dep h5) (h3 p rfl)
  cases head with
  | var k => cases h; exact h4
  | int k => cases h; exact h1
  | atom k => exact key h
  | s1 f x => exact key h
  | s2 f x y => exact key h
theorem trFault_mono {c : Nat} {S S' : Sy} (h : Le c S S') {head body : Tm} {pushed : Option Tm} (k : Ok S body) : trFault S' head pushed body = trFault S head pushed body := by
  cases head <;> first | rfl | (show (partFault S' body).or _ = (partFault S body).or _; rw [partFault_mono h k])
/-- the state of the law between its lines -/
structure LS (τ : Store) (S : Sy) : Prop where
  sym : SymAt τ S
  base : Base S
  coins : CoinsAt 2000 τ
  free : ∀ n, 7 ≤ n → n ≤ 16 → τ n = .free
theorem LS.off {τ τ' : Store} {S : Sy} {L : List Nat} (h : LS τ S) (o : Off L τ τ') (hl : subB L [0] = true) (hc : CoinsAt 2000 τ') : LS τ' S :=
  ⟨h.sym.off' o (fun n hn q => by have := List.mem_singleton.mp (subB_ok hl n q); subst this; simp at hn), h.base, hc, fun n h1 h2 => (o n (by lia) (fun q => by have := List.mem_singleton.mp (subB_ok hl n q); lia)).trans (h.free n h1 h2)⟩
theorem LS.sy {τ τ' : Store} {S S' : Sy} {L : List Nat} {c : Nat} (h : LS τ S) (o : Off L τ τ') (hl : subB L [0, 1, 2, 3, 4, 5, 6] = true) (hS : SymAt τ' S') (hle : Le c S S') (hc : CoinsAt 2000 τ') : LS τ' S' :=
  ⟨hS, h.base.mono hle, hc, fun n h1 h2 => (o n (by lia) (fun q => by have := subB_ok hl n q; simp at this; lia)).trans (h.free n h1 h2)⟩
section
variable {cx : Cx}
noncomputable def fxL (cn : Str) (cd : Value) (D : Dy) : Fx := ⟨cn, fS (T 58), D.L, 451, cd, [], D.ρ0, D.h0, D.A, [], []⟩
set_option maxHeartbeats 4000000 in
theorem law_TL (ok : CxOk cx) (is : List Int) (hz : is.length ≤ 63) {fD : Dy} {cn : Str} {cd : Value} : TL cx (fxL cn cd fD) 110 (fB (T 58)) [("script", .dat (.list (is.map .int)))] (fun _ => .free) := by
  refine TL_cons <| X_assign <| T_def (a := 409) ok (by kernel_rfl) (by kernel_rfl) <| Ts_cons <| T_name rfl <| Ts_nil <| OC_e2 (c_coins ok is hz rfl) (lowOk (by exact tT)) .never fun σ₁ ll hC₁ ho₁ => ?_
  have fr₁ : ∀ n, 1 ≤ n → n < 32 → mix σ₁ (fun _ => .free) n = .free := fun n h1 h2 => ((Off.refl.mix ho₁) n h2 (by simp; lia)).trans rfl
  have hC₁' : CoinsAt 2000 (mix σ₁ (fun _ => .free)) := hC₁
  generalize mix σ₁ (fun _ => .free) = τ at *
  refine ⟨rfl, TL_cons <| X_assign <| T_def (a := 154) ok (by kernel_rfl) (by kernel_rfl) <| Ts_nil <| OC_new (d := 108) (n := 1) (k := 2) ok ⟨by kernel_rfl, by kernel_rfl, by kernel_rfl⟩ (fr₁ 1 (by decide) (by decide)) (fr₁ 2 (by decide) (by decide)) (lowOk (by exact tT))
    ((c_symInit ok (by rfl) (by rfl) (fun n h1 h2 => (upd_ne (by lia)).trans ((upd_ne (by lia)).trans (fr₁ n (by lia) (by lia))))).mono (by decide) (fun _ _ q => q) fun _ h => h) fun l σ₂ ⟨hl, hS₂, ho₂⟩ => ⟨hl, rfl, ?_⟩⟩
  have o₂ : Off [1, 2, 3, 4, 5, 6] τ (mix σ₂ (upd (upd τ 2 (.ns [])) 1 (.inst 154 2))) := ((Off.refl.upd (by exact tT)).upd (by exact tT)).mix (ho₂.mono (by exact tT))
  have H₂ : LS (mix σ₂ (upd (upd τ 2 (.ns [])) 1 (.inst 154 2))) sym0 := ⟨hS₂.mix, ⟨[], by rw [sym0_funs, List.append_nil]⟩, hC₁'.off o₂ (by exact tT), fun n h1 h2 => (o₂ n (by lia) (by simp; lia)).trans (fr₁ n (by lia) (by lia))⟩
  have z₂ : sym0.size = 61 := by
    unfold Sy.size
    rw [sym0_funs, sym0_texts]; rfl
  generalize mix σ₂ (upd (upd τ 2 (.ns [])) 1 (.inst 154 2)) = τ₂ at *
  generalize sym0 = S at *
  -- heads
  refine TL_cons <| X_assign <| T_list <| Ts_cons <| T_tuple <| Ts_cons <| T_cstr <| Ts_cons <| T_symM (f := 88) ok rfl H₂.sym.s1 H₂.sym.s2 rfl (Ts_cons <| T_cstr <| Ts_nil <| OC_e2 (c_atom ok H₂.sym (by lia) "n") (lowOk (by exact tT)) .never fun σ₃ ll hS₃ ho₃ => ?_) (by decide)
  have hle3 := S.atom_le "n"
  have H₃ : LS (mix σ₃ τ₂) (S.atom "n").1 := H₂.sy (Off.refl.mix ho₃) (by exact tT) hS₃.mix hle3 (H₂.coins.off (Off.refl.mix ho₃) (by exact tT))
  have z₃ := hle3.size
  generalize mix σ₃ τ₂ = τ₃ at *
  generalize (S.atom "n").1 = S₃ at *
  refine Ts_nil ⟨[.str "a", .int (S.atom "n").2], rfl, leT tT, Ts_cons <| T_tuple <| Ts_cons <| T_cstr <| Ts_cons <| T_symM (f := 109) ok rfl H₃.sym.s1 H₃.sym.s2 rfl (Ts_cons <| T_cstr <| Ts_cons <| T_cint <| Ts_nil <| OC_e2 (c_func ok H₃.sym (by lia) "p" 1) (lowOk (by exact tT)) .never fun σ₄ ll hS₄ ho₄ => ?_) (by decide)⟩
  have hle4 := S₃.func_le "p" 1
  have H₄ : LS (mix σ₄ τ₃) (S₃.func "p" 1).1 := H₃.sy (Off.refl.mix ho₄) (by exact tT) hS₄.mix hle4 (H₃.coins.off (Off.refl.mix ho₄) (by exact tT))
  have z₄ := hle4.size
  have hfa : Arity (S₃.func "p" 1).1 (S₃.func "p" 1).2 1 := by
    have := (S₃.atom "p").1.functor_at (S₃.atom "p").2 1
    exact ⟨this.1, _, this.2⟩
  generalize mix σ₄ τ₃ = τ₄ at *
  generalize (S₃.func "p" 1).1 = S₄ at *
  generalize (S₃.func "p" 1).2 = fp at *
  refine Ts_cons <| T_tuple <| Ts_cons <| T_tuple <| Ts_cons <| T_cstr <| Ts_cons <| T_cint <| Ts_nil ⟨[.str "v", .int 0], rfl, leT tT, Ts_nil ⟨[(Tm.var 0).enc], rfl, leT tT, Ts_nil ⟨[.str "s", .int fp, .tuple [(Tm.var 0).enc]], rfl, leT tT, ?_⟩⟩⟩
  refine Ts_cons <| T_tuple <| Ts_cons <| T_cstr <| Ts_cons <| T_cint <| Ts_nil ⟨[.str "v", .int 2], rfl, leT tT, Ts_cons <| T_tuple <| Ts_cons <| T_cstr <| Ts_cons <| T_cint <| Ts_nil ⟨[.str "i", .int 44], rfl, leT tT, Ts_nil ⟨[(Tm.atom (S.atom "n").2).enc, (Tm.s1 fp (.var 0)).enc, (Tm.var 2).enc, (Tm.int 44).enc], rfl, leT tT, rfl, ?_⟩⟩⟩
  generalize (S.atom "n").2 = an at *
  -- head
  refine TL_cons <| X_assign <| T_sub <| T_name rfl <| T_sub <| T_list <| Ts_cons <| T_cint <| Ts_cons <| T_cint <| Ts_cons <| T_cint <| Ts_cons <| T_cint <| Ts_cons <| T_cint <| Ts_cons <| T_cint <| Ts_cons <| T_cint <| Ts_cons <| T_cint <| Ts_nil ⟨[.int 0, .int 0, .int 1, .int 0, .int 2, .int 3, .int 1, .int 0], rfl, leT tT, ?_⟩
  refine T_def (a := 416) ok (by kernel_rfl) (by kernel_rfl) <| Ts_cons <| T_name rfl <| Ts_cons <| T_cint <| Ts_nil <| OC_x3 (c_coin ok H₄.coins 8 (by decide)) (lowOk (by exact tT)) .never fun r σ₅ ll hr0 hr1 hC₅ ho₅ => ?_
  have H₅ : LS (mix σ₅ τ₄) S₄ := H₄.off (Off.refl.mix ho₅) (by exact tT) hC₅
  generalize mix σ₅ τ₄ = τ₅ at *
  obtain ⟨i, hi, hi0, hi1⟩ : ∃ i : Int, [PyData.int 0, .int 0, .int 1, .int 0, .int 2, .int 3, .int 1, .int 0][r.toNat]? = some (.int i) ∧ 0 ≤ i ∧ i ≤ 3 := by
    rcases (by lia : r = 0 ∨ r = 1 ∨ r = 2 ∨ r = 3 ∨ r = 4 ∨ r = 5 ∨ r = 6 ∨ r = 7) with rfl | rfl | rfl | rfl | rfl | rfl | rfl | rfl
    · exact ⟨0, rfl, by decide, by decide⟩
    · exact ⟨0, rfl, by decide, by decide⟩
    · exact ⟨1, rfl, by decide, by decide⟩
    · exact ⟨0, rfl, by decide, by decide⟩
    · exact ⟨2, rfl, by decide, by decide⟩
    · exact ⟨3, rfl, by decide, by decide⟩
    · exact ⟨1, rfl, by decide, by decide⟩
    · exact ⟨0, rfl, by decide, by decide⟩
  refine O_itemL hr0 hi ?_ (by lia)
  obtain ⟨head, hhe, hho, hhc, hhz⟩ : ∃ t : Tm, [(Tm.atom an).enc, (Tm.s1 fp (.var 0)).enc, (Tm.var 2).enc, (Tm.int 44).enc][i.toNat]? = some t.enc ∧ Ok S₄ t ∧ (sb t.tag "s" = true → t.num ≠ 1) ∧ t.size ≤ 2 := by
    rcases (by lia : i = 0 ∨ i = 1 ∨ i = 2 ∨ i = 3) with rfl | rfl | rfl | rfl
    · exact ⟨.atom an, rfl, trivial, fun q => absurd q Bool.false_ne_true, Nat.le_of_ble_eq_true rfl⟩
    · refine ⟨.s1 fp (.var 0), rfl, ⟨hfa, trivial⟩, fun _ q => ?_, Nat.le_of_ble_eq_true rfl⟩
      have q' : fp = 1 := q
      subst q'
      exact absurd (base_ar H₄.base (f := 1) rfl hfa) (by decide)
    · exact ⟨.var 2, rfl, trivial, fun q => absurd q Bool.false_ne_true, Nat.le_of_ble_eq_true rfl⟩
    · exact ⟨.int 44, rfl, trivial, fun q => absurd q Bool.false_ne_true, Nat.le_of_ble_eq_true rfl⟩
  refine O_itemL hi0 hhe ⟨rfl, ?_⟩ (by lia)
  have hhd := head.dep_le
  -- way
  refine TL_cons <| X_assign <| T_def (a := 416) ok (by kernel_rfl) (by kernel_rfl) <| Ts_cons <| T_name rfl <| Ts_cons <| T_cint <| Ts_nil <| OC_x3 (c_coin ok H₅.coins 5 (by decide)) (lowOk (by exact tT)) .never fun way σ₆ ll hw0 hw1 hC₆ ho₆ => ?_
  have H₆ : LS (mix σ₆ τ₅) S₄ := H₅.off (Off.refl.mix ho₆) (by exact tT) hC₆
  generalize mix σ₆ τ₅ = τ₆ at *
  refine ⟨rfl, TL_cons <| X_assign <| T_cnone ⟨rfl, ?_⟩⟩
  -- pushed
  refine TL_cons (TX.mono (Q := fun fl m' τ' => fl = .next ∧ ∃ (pushed : Option Tm) (S' : Sy), lk m' "pushed" = some (.dat (optEnc pushed)) ∧ LS τ' S' ∧ Le 1 S₄ S' ∧ (∀ p, pushed = some p → Ok S' p ∧ Leaf p.end_ ∧ p.size ≤ 5) ∧ lk m' "coins" = some (.loc 0) ∧ lk m' "signs" = some (.loc 1) ∧ lk m' "head" = some (.dat head.enc)) ?_ ?_)
  · refine X_if <| TT.mono (Q := fun c τ' => τ' = τ₆) (TT_or <| TT_cmp <| T_name rfl <| T_cint <| O_eqi ⟨_, rfl, fun h => TT_or <| TT_cmp <| T_name rfl <| T_cint <| O_eqi ⟨_, rfl, fun h' => TT_or0 rfl, fun h' => rfl⟩, fun h => rfl⟩) ?_
    rintro c τ' rfl
    refine ⟨fun _ => ?_, fun _ => ?_⟩
    · refine S_cons <| X_assign <| T_def (a := 423) ok (by kernel_rfl) (by kernel_rfl) <| Ts_cons <| T_name rfl <| Ts_cons <| T_name rfl <| Ts_nil <| OC_of (c_row ok H₆.sym H₆.base (by lia) H₆.coins) (lowOk (by exact tT)) .never fun l σ₇ ll ⟨⟨t, S', hl, hS₇, hle, ht, htl, htz⟩, hC₇, ho₇⟩ => ?_
      subst hl
      exact S_nil ⟨rfl, some t, S', rfl, H₆.sy (Off.refl.mix ho₇) (by exact tT) hS₇.mix hle hC₇, hle, fun p hp => by cases hp; exact ⟨ht, htl, htz⟩, rfl, rfl, rfl⟩
    · refine S_cons <| X_if <| TT_cmp <| T_name rfl <| T_cint <| O_eqi ⟨_, rfl, fun h4 => ?_, fun h4 => ?_⟩
      · refine S_cons <| X_assign <| T_sub <| T_list <| Ts_cons <| T_tuple <| Ts_cons <| T_cstr <| Ts_cons <| T_symM (f := 88) ok rfl H₆.sym.s1 H₆.sym.s2 rfl (Ts_cons <| T_cstr <| Ts_nil <| OC_e2 (c_atom ok H₆.sym (by lia) "x") (lowOk (by exact tT)) .never fun σ₇ ll hS₇ ho₇ => ?_) (by decide)
        have hle7 := S₄.atom_le "x"
        have H₇ : LS (mix σ₇ τ') (S₄.atom "x").1 := H₆.sy (Off.refl.mix ho₇) (by exact tT) hS₇.mix hle7 (H₆.coins.off (Off.refl.mix ho₇) (by exact tT))
        generalize mix σ₇ τ' = τ₇ at *
        refine Ts_nil ⟨[.str "a", .int (S₄.atom "x").2], rfl, leT tT, Ts_cons <| T_tuple <| Ts_cons <| T_cstr <| Ts_cons <| T_cint <| Ts_nil ⟨[.str "i", .int 9], rfl, leT tT, Ts_cons <| T_tuple <| Ts_cons <| T_cstr <| Ts_cons <| T_cint <| Ts_nil ⟨[.str "v", .int 1], rfl, leT tT, Ts_cons <| T_tuple <| Ts_cons <| T_cstr <| Ts_cons <| T_num_ 0 ok <| Ts_nil ⟨[.str "a", .int 0], rfl, leT tT, Ts_nil ⟨[(Tm.atom (S₄.atom "x").2).enc, (Tm.int 9).enc, (Tm.var 1).enc, (Tm.atom 0).enc], rfl, leT tT, ?_⟩⟩⟩⟩⟩
        refine T_def (a := 416) ok (by kernel_rfl) (by kernel_rfl) <| Ts_cons <| T_name rfl <| Ts_cons <| T_cint <| Ts_nil <| OC_x3 (c_coin ok H₇.coins 4 (by decide)) (lowOk (by exact tT)) .never fun q σ₈ ll hq0 hq1 hC₈ ho₈ => ?_
        obtain ⟨t, ht, htl⟩ : ∃ t : Tm, [(Tm.atom (S₄.atom "x").2).enc, (Tm.int 9).enc, (Tm.var 1).enc, (Tm.atom 0).enc][q.toNat]? = some t.enc ∧ Leaf t := by
          rcases (by lia : q = 0 ∨ q = 1 ∨ q = 2 ∨ q = 3) with rfl | rfl | rfl | rfl
          · exact ⟨.atom _, rfl, trivial⟩
          · exact ⟨.int 9, rfl, trivial⟩
          · exact ⟨.var 1, rfl, trivial⟩
          · exact ⟨.atom 0, rfl, trivial⟩
        exact O_itemL hq0 ht (S_nil <| S_nil ⟨rfl, some t, (S₄.atom "x").1, rfl, H₇.off (Off.refl.mix ho₈) (by exact tT) hC₈, hle7, fun p hp => by cases hp; exact ⟨ok_leaf htl, by rw [htl.end_]; exact htl, by rw [htl.size]; decide⟩, rfl, rfl, rfl⟩) (by lia)
      · exact S_nil <| S_nil ⟨rfl, none, S₄, rfl, H₆, (Le.refl S₄).up (by lia), (fun p hp => nomatch hp), rfl, rfl, rfl⟩
  intro fl m τ' j
  obtain ⟨rfl, pushed, S₇, j⟩ := j
  refine and7 j fun e4 H₇ hle7 hpu e1 e2 e3 => ?_
  clear j
  refine ⟨rfl, ?_⟩
  have z₇ := hle7.size
  -- body
  have lp4 : leP 4 = 124 := rfl
  have sp4 : szP 4 = 95 := rfl
  refine TL_cons <| X_assign <| T_def (a := 430) ok (by kernel_rfl) (by kernel_rfl) <| Ts_cons <| T_name e1 <| Ts_cons <| T_name e2 <| Ts_cons <| T_cint <| Ts_nil <| OC_of (c_lpart ok 4 H₇.sym H₇.base (by lia) H₇.coins) (lowOk (by exact tT)) .never fun l σ₈ ll ⟨⟨body, S₈, hl, hS₈, hle8, hbo, hbz, hbd⟩, hC₈, ho₈⟩ => ?_
  subst hl
  have H₈ : LS (mix σ₈ τ') S₈ := H₇.sy (Off.refl.mix ho₈) (by exact tT) hS₈.mix hle8 hC₈
  have z₈ := hle8.size
  generalize mix σ₈ τ' = τ₈ at *
  refine ⟨rfl, TL_cons <| X_assign <| T_cnone ⟨rfl, ?_⟩⟩
  have n2 : ∀ {x : Str} {l : LV}, lk m x = some l → sb "body" x = false → sb "due" x = false → lk (putl (putl m "body" (.dat body.enc)) "due" (.dat .none)) x = some l := fun h a b => (lkp_ne b).trans ((lkp_ne a).trans h)
  have f1 := n2 e1 rfl rfl
  have f2 := n2 e2 rfl rfl
  have f3 := n2 e3 rfl rfl
  have f4 := n2 e4 rfl rfl
  have f5 : lk (putl (putl m "body" (.dat body.enc)) "due" (.dat .none)) "body" = some (.dat body.enc) := (lkp_ne rfl).trans (lkp_same rfl)
  show TL _ _ _ _ (putl (putl m "body" (.dat body.enc)) "due" (.dat .none)) _
  generalize putl (putl m "body" (.dat body.enc)) "due" (.dat .none) = m at f1 f2 f3 f4 f5
  have hho8 : Ok S₈ head := (hho.mono hle7).mono hle8
  have hpu8 : ∀ p, pushed = some p → Ok S₈ p ∧ Leaf p.end_ ∧ p.size ≤ 5 := fun p hp => ⟨(hpu p hp).1.mono hle8, (hpu p hp).2⟩
  refine TL_cons (TX.mono (Q := fun fl m' τ' => fl = .next ∧ ∃ S' : Sy, lk m' "due" = some (.dat (dueOf S' (trFault S₈ head pushed body))) ∧ RegF S' (trFault S₈ head pushed body) ∧ LS τ' S' ∧ Le 500 S₈ S' ∧ lk m' "coins" = some (.loc 0) ∧ lk m' "signs" = some (.loc 1) ∧ lk m' "head" = some (.dat head.enc) ∧ lk m' "pushed" = some (.dat (optEnc pushed)) ∧ lk m' "body" = some (.dat body.enc)) ?_ ?_)
  · refine X_if <| TT_tagIs f3 ⟨fun hv => ?_, fun hv => ?_⟩
    · have htr : trFault S₈ head pushed body = some .inst := by
        revert hv
        cases head <;> intro hv <;> first | rfl | exact absurd hv Bool.false_ne_true
      rw [htr]
      refine S_cons <| X_assign <| T_tuple <| Ts_cons <| T_cstr <| Ts_cons <| T_symM (f := 88) ok f2 H₈.sym.s1 H₈.sym.s2 rfl (Ts_cons <| T_cstr <| Ts_nil <| OC_e2 (c_atom ok H₈.sym (by lia) "instantiation_error") (lowOk (by exact tT)) .never fun σ₉ ll hS₉ ho₉ => ?_) (by decide)
      have hle9 := S₈.atom_le "instantiation_error"
      refine Ts_nil ⟨[.str "a", .int (S₈.atom "instantiation_error").2], rfl, leT tT, S_nil ⟨rfl, (S₈.atom "instantiation_error").1, ?_, fun c T h => (inst_reg h).trans (inst_reg (Le.refl _)).symm, H₈.sy (Off.refl.mix ho₉) (by exact tT) hS₉.mix hle9 (H₈.coins.off (Off.refl.mix ho₉) (by exact tT)), hle9.up (by lia), (lkp_ne rfl).trans f1, (lkp_ne rfl).trans f2, (lkp_ne rfl).trans f3, (lkp_ne rfl).trans f4, (lkp_ne rfl).trans f5⟩⟩
      exact (lkp_same rfl).trans (congrArg (fun x => some (LV.dat x)) (inst_reg (Le.refl _)).symm)
    refine S_cons <| X_if <| TT_tagIs f3 ⟨fun hi => ?_, fun hi => ?_⟩
    · have htr : trFault S₈ head pushed body = some (.callable head) := by
        revert hi
        cases head <;> intro hi <;> first | rfl | exact absurd hi Bool.false_ne_true
      rw [htr]
      refine S_cons <| X_assign <| T_tuple <| Ts_cons <| T_cstr <| Ts_cons <| T_symM (f := 109) ok f2 H₈.sym.s1 H₈.sym.s2 rfl (Ts_cons <| T_cstr <| Ts_cons <| T_cint <| Ts_nil <| OC_e2 (c_func ok H₈.sym (by lia) "type_error" 2) (lowOk (by exact tT)) .never fun σ₉ ll hS₉ ho₉ => ?_) (by decide)
      have hle9 := S₈.func_le "type_error" 2
      have z₉ := hle9.size
      have hS₉' : SymAt (mix σ₉ τ₈) (S₈.func "type_error" 2).1 := hS₉.mix
      refine Ts_cons <| T_tuple <| Ts_cons <| T_tuple <| Ts_cons <| T_cstr <| Ts_cons <| T_symM (f := 88) ok f2 hS₉'.s1 hS₉'.s2 rfl (Ts_cons <| T_cstr <| Ts_nil <| OC_e2 (c_atom ok hS₉' (by lia) "callable") (lowOk (by exact tT)) .never fun σ₁₀ ll hS₁₀ ho₁₀ => ?_) (by decide)
      have hle10 := (S₈.func "type_error" 2).1.atom_le "callable"
      have oo : Off [3, 4, 5, 6] τ₈ (mix σ₁₀ (mix σ₉ τ₈)) := (Off.refl.mix ho₉).mix (ho₁₀.mono (by exact tT))
      refine Ts_nil ⟨[.str "a", .int ((S₈.func "type_error" 2).1.atom "callable").2], rfl, leT tT, Ts_cons <| T_name f3 <| Ts_nil ⟨[.tuple [.str "a", .int ((S₈.func "type_error" 2).1.atom "callable").2], head.enc], rfl, leT tT, Ts_nil ⟨[.str "s", .int (S₈.func "type_error" 2).2, .tuple [.tuple [.str "a", .int ((S₈.func "type_error" 2).1.atom "callable").2], head.enc]], rfl, leT tT, S_nil <| S_nil ⟨rfl, ((S₈.func "type_error" 2).1.atom "callable").1, ?_, fun c T h => (err_reg h).trans (err_reg (Le.refl _)).symm, H₈.sy oo (by exact tT) hS₁₀.mix (hle9.trans hle10) (H₈.coins.off oo (by exact tT)), (hle9.trans hle10).up (by lia), (lkp_ne rfl).trans f1, (lkp_ne rfl).trans f2, (lkp_ne rfl).trans f3, (lkp_ne rfl).trans f4, (lkp_ne rfl).trans f5⟩⟩⟩⟩
      exact (lkp_same rfl).trans (congrArg (fun x => some (LV.dat x)) (err_reg (Le.refl _)).symm)
    · have hca : (sb head.tag "a" || sb head.tag "s") = true := by
        revert hv hi
        cases head <;> intro hv hi <;> first | rfl | exact absurd hv (Ne.symm Bool.false_ne_true) | exact absurd hi (Ne.symm Bool.false_ne_true)
      rw [trFault_c hca]
      have hpfc : PF cx body := c_pfault ok body
      refine S_cons <| X_assign <| T_def (a := 444) ok (by kernel_rfl) (by kernel_rfl) <| Ts_cons <| T_name f2 <| Ts_cons <| T_name f5 <| Ts_nil <| OC_of (hpfc H₈.sym H₈.base (by lia) hbo) (lowOk (by exact tT)) .never fun l σ₉ ll ⟨⟨S₉, hl, hS₉, hle9, hreg9⟩, ho₉⟩ => ?_
      subst hl
      have H₉ : LS (mix σ₉ τ₈) S₉ := H₈.sy (Off.refl.mix ho₉) (by exact tT) hS₉.mix hle9 (H₈.coins.off (Off.refl.mix ho₉) (by exact tT))
      have z₉ := hle9.size
      generalize mix σ₉ τ₈ = τ₉ at *
      have g1 := (lkp_ne (x := "due") (v := LV.dat (dueOf S₉ (partFault S₈ body))) rfl).trans f1
      have g2 := (lkp_ne (x := "due") (v := LV.dat (dueOf S₉ (partFault S₈ body))) rfl).trans f2
      have g3 := (lkp_ne (x := "due") (v := LV.dat (dueOf S₉ (partFault S₈ body))) rfl).trans f3
      have g4 := (lkp_ne (x := "due") (v := LV.dat (dueOf S₉ (partFault S₈ body))) rfl).trans f4
      have g5 := (lkp_ne (x := "due") (v := LV.dat (dueOf S₉ (partFault S₈ body))) rfl).trans f5
      have g6 : lk (putl m "due" (.dat (dueOf S₉ (partFault S₈ body)))) "due" = some (.dat (dueOf S₉ (partFault S₈ body))) := lkp_same rfl
      show TS _ _ _ _ _ (putl m "due" (.dat (dueOf S₉ (partFault S₈ body)))) _ _
      generalize putl m "due" (.dat (dueOf S₉ (partFault S₈ body))) = m at g1 g2 g3 g4 g5 g6
      have hnp : ∀ F, partFault S₈ body = some F → isNoneB (.dat (dueOf S₉ (partFault S₈ body))) = false := fun F e => by rw [e]; exact isNone_form S₉ F
      have hno : ∀ p, pushed = some p → isNoneB (.dat (optEnc pushed)) = false := fun p e => by
        obtain ⟨c, ec⟩ := enc_tup p
        rw [e]
        show isNoneB (.dat p.enc) = false
        rw [ec]; rfl
      refine S_cons <| X_if <| TT.mono (Q := fun c τ' => τ' = τ₉ ∧ (c = true → partFault S₈ body = none ∧ ∃ p, pushed = some p) ∧ (c = false → (∃ F, partFault S₈ body = some F) ∨ pushed = none)) (TT_and <| TT_cmp <| T_name g6 <| T_cnone <| O_is ⟨_, rfl, fun h => TT_and <| TT_cmp <| T_name g4 <| T_cnone <| O_isnot ⟨_, rfl, fun h' => TT_and0 ⟨rfl, fun _ => ?_, fun q => (by cases q)⟩, fun h' => ⟨rfl, fun q => (by cases q), fun _ => .inr ?_⟩⟩, fun h => ⟨rfl, fun q => (by cases q), fun _ => .inl ?_⟩⟩) ?_
      · refine ⟨?_, ?_⟩
        · cases e : partFault S₈ body with
          | none => rfl
          | some F => rw [hnp F e] at h; cases h
        · cases e : pushed with
          | none => rw [e] at h'; cases h'
          | some p => exact ⟨p, rfl⟩
      · cases e : pushed with
        | none => rfl
        | some p => rw [hno p e] at h'; cases h'
      · cases e : partFault S₈ body with
        | none => rw [e] at h; cases h
        | some F => exact ⟨F, rfl⟩
      rintro c τ'' ⟨rfl, hc1, hc2⟩
      refine ⟨fun hc => ?_, fun hc => ?_⟩
      · obtain ⟨hpn, p, rfl⟩ := hc1 hc
        obtain ⟨hp1, hp2, hp3⟩ := hpu8 p rfl
        rw [hpn]
        show TS _ _ _ _ _ _ _ (andThen _ _ _ _ _ (andThen _ _ _ _ _ fun fl m' τ' => fl = .next ∧ ∃ S' : Sy, lk m' "due" = some (.dat (dueOf S' (listFault p))) ∧ RegF S' (listFault p) ∧ LS τ' S' ∧ Le 500 S₈ S' ∧ lk m' "coins" = some (.loc 0) ∧ lk m' "signs" = some (.loc 1) ∧ lk m' "head" = some (.dat head.enc) ∧ lk m' "pushed" = some (.dat (optEnc (some p))) ∧ lk m' "body" = some (.dat body.enc)))
        refine S_cons <| X_assign <| T_def (a := 437) ok (by kernel_rfl) (by kernel_rfl) <| Ts_cons <| T_name g2 <| Ts_cons <| T_name (l := .dat p.enc) g4 <| Ts_nil <| OC_of (c_lfault ok H₉.sym H₉.base (by lia) p (hp1.mono hle9) hp2) (lowOk (by exact tT)) .never fun l σ₁₀ ll ⟨⟨S₁₀, hl, hS₁₀, hle10, hreg10⟩, ho₁₀⟩ => ?_
        subst hl
        exact S_nil <| S_nil <| S_nil ⟨rfl, S₁₀, lkp_same rfl, hreg10, H₉.sy (Off.refl.mix ho₁₀) (by exact tT) hS₁₀.mix hle10 (H₉.coins.off (Off.refl.mix ho₁₀) (by exact tT)), (hle9.trans hle10).up (by lia), (lkp_ne rfl).trans g1, (lkp_ne rfl).trans g2, (lkp_ne rfl).trans g3, (lkp_ne rfl).trans g4, (lkp_ne rfl).trans g5⟩
      · have hsame : (partFault S₈ body).or (pushed.bind listFault) = partFault S₈ body := by
          rcases hc2 hc with ⟨F, e⟩ | rfl
          · rw [e]; rfl
          · exact Option.or_none
        rw [hsame]
        exact S_nil <| S_nil <| S_nil ⟨rfl, S₉, g6, hreg9, H₉, hle9.up (by lia), g1, g2, g3, g4, g5⟩
  intro fl m τ₉ j
  obtain ⟨rfl, S₉, j⟩ := j
  refine and9 j fun g6 hreg H₉ hle9 g1 g2 g3 g4 g5 => ?_
  clear j
  refine ⟨rfl, ?_⟩
  have z₉ := hle9.size
  have htr9 := trFault_mono hle9 (head := head) (pushed := pushed) hbo
  generalize hF : trFault S₈ head pushed body = F0 at *
  -- left
  refine TL_cons (TX.mono (Q := fun fl m' τ' => fl = .next ∧ τ' = τ₉ ∧ m' = putl m "left" (.dat (leftOf head pushed).enc)) ?_ ?_)
  · cases pushed with
    | none => exact X_assign <| T_ifexp <| TT_cmp <| T_name g4 <| T_cnone <| O_is ⟨_, rfl, fun _ => T_name g3 ⟨rfl, rfl, rfl⟩, fun h => (by cases h)⟩
    | some p =>
      have hno : isNoneB (.dat (optEnc (some p))) = false := by
        obtain ⟨c, ec⟩ := enc_tup p
        show isNoneB (.dat p.enc) = false
        rw [ec]; rfl
      exact X_assign <| T_ifexp <| TT_cmp <| T_name g4 <| T_cnone <| O_is ⟨_, rfl, fun h => (by rw [hno] at h; cases h), fun _ => T_tuple <| Ts_cons <| T_cstr <| Ts_cons <| T_num_ 1 ok <| Ts_cons <| T_tuple <| Ts_cons <| T_name g3 <| Ts_cons <| T_name (l := .dat p.enc) g4 <| Ts_nil ⟨[head.enc, p.enc], rfl, leT tT, Ts_nil ⟨[.str "s", .int 1, .tuple [head.enc, p.enc]], rfl, leT tT, rfl, rfl, rfl⟩⟩⟩
  rintro fl m' τ'' ⟨rfl, rfl, rfl⟩
  refine ⟨rfl, ?_⟩
  have k1 := (lkp_ne (x := "left") (v := LV.dat (leftOf head pushed).enc) rfl).trans g1
  have k2 := (lkp_ne (x := "left") (v := LV.dat (leftOf head pushed).enc) rfl).trans g2
  have k5 := (lkp_ne (x := "left") (v := LV.dat (leftOf head pushed).enc) rfl).trans g5
  have k6 := (lkp_ne (x := "left") (v := LV.dat (leftOf head pushed).enc) rfl).trans g6
  have k7 : lk (putl m "left" (.dat (leftOf head pushed).enc)) "left" = some (.dat (leftOf head pushed).enc) := lkp_same rfl
  generalize putl m "left" (.dat (leftOf head pushed).enc) = m at k1 k2 k5 k6 k7
  have hpd : ∀ p, pushed = some p → p.dep ≤ 10 := fun p hp => by have := (hpu8 p hp).2.2; have := p.dep_le; lia
  have hfd : ∀ F, F0 = some F → F.dep ≤ 10 := fun F e => trFault_dep (hF.trans e) (by lia) (by lia) hpd (by lia)
  refine TL_try (X := fun z => ∃ F S', Le 2000 S₉ S' ∧ F0 = some F ∧ z = F.ball S') (D := dueOf S₉ F0) ok k6 rfl rfl ?_ ?_
  · refine S_cons <| X_assign <| T_def (a := 336) ok (by kernel_rfl) (by kernel_rfl) <| Ts_cons <| T_name k2 <| Ts_cons <| T_tuple <| Ts_cons <| T_cstr <| Ts_cons <| T_num_ 8 ok <| Ts_cons <| T_tuple <| Ts_cons <| T_name k7 <| Ts_cons <| T_name k5 <| Ts_nil ⟨[(leftOf head pushed).enc, body.enc], rfl, leT tT, Ts_nil ⟨[.str "s", .int 8, .tuple [(leftOf head pushed).enc, body.enc]], rfl, leT tT, ?_⟩⟩
    refine Ts_cons <| T_def (a := 290) ok (by kernel_rfl) (by kernel_rfl) <| Ts_cons <| T_def (a := 416) ok (by kernel_rfl) (by kernel_rfl) <| Ts_cons <| T_name k1 <| Ts_cons <| T_cint <| Ts_nil <| OC_x3 (c_coin ok H₉.coins 5 (by decide)) (lowOk (by exact tT)) .never fun r σ₁₀ ll hr0 hr1 hC₁₀ ho₁₀ => ?_
    have H₁₀ : LS (mix σ₁₀ τ'') S₉ := H₉.off (Off.refl.mix ho₁₀) (by exact tT) hC₁₀
    generalize mix σ₁₀ τ'' = τ₁₀ at *
    refine Ts_nil <| OC_new (d := 108) (n := 7) (k := 8) ok ⟨by kernel_rfl, by kernel_rfl, by kernel_rfl⟩ (H₁₀.free 7 (by decide) (by decide)) (H₁₀.free 8 (by decide) (by decide)) (lowOk (by exact tT))
      ((c_frInit ok r (by rfl) (by rfl)).mono (Nat.zero_le 108) (fun _ _ q => q) fun _ h => h) fun l σ₁₁ ⟨hl, hfr, ho₁₁⟩ => ⟨hl, ?_⟩
    have o₁₁ : Off [7, 8] τ₁₀ (mix σ₁₁ (upd (upd τ₁₀ 8 (.ns [])) 7 (.inst 290 8))) := ((Off.refl.upd (by exact tT)).upd (by exact tT)).mix (ho₁₁.mono (by exact tT))
    have hS₁₁ := H₁₀.sym.off o₁₁ (by exact tT)
    have hfr₁₁ : FrAt (mix σ₁₁ (upd (upd τ₁₀ 8 (.ns [])) 7 (.inst 290 8))) r := hfr.mix
    have hfree : ∀ n, 9 ≤ n → n ≤ 16 → mix σ₁₁ (upd (upd τ₁₀ 8 (.ns [])) 7 (.inst 290 8)) n = .free := fun n h1 h2 => (o₁₁ n (by lia) (by simp; lia)).trans (H₁₀.free n (by lia) h2)
    generalize mix σ₁₁ (upd (upd τ₁₀ 8 (.ns [])) 7 (.inst 290 8)) = τ₁₁ at *
    have htc := c_translate ok hS₁₁ H₁₀.base (by lia) hfr₁₁ hfree head pushed body (hho8.mono hle9) hhc (by lia) (hbo.mono hle9) (by lia) (fun p hp => ⟨(hpu8 p hp).1.mono hle9, (hpu8 p hp).2.1, by have := (hpu8 p hp).2.2; lia⟩)
    rw [htr9] at htc
    refine Ts_nil <| OC_ofM htc (lowOk (by exact tT)) fun l σ₁₂ ll ⟨hn, x, hl⟩ => ?_
    subst hl
    refine S_nil ⟨rfl, TL_ret ?_⟩
    subst hn
    refine T_andv <| T_cmp <| T_name ((lkp_ne rfl).trans k6) <| T_cnone <| O_is ⟨_, rfl, fun _ => ?_, fun h => (by cases h)⟩
    refine T_andv <| T_cmp <| T_sub <| T_name (lkp_same rfl) <| T_cint <| O_itemT (x := .str "s") (by decide) rfl <| T_cstr <| O_eqs ⟨_, rfl, fun _ => ?_, fun h => absurd h (by show ¬ sb "s" "s" = false; decide +kernel)⟩
    exact T_and1 <| T_cmp <| T_sub <| T_name (lkp_same rfl) <| T_cint <| O_itemT (x := .int 5) (by decide) rfl <| T_num_ 5 ok <| O_eqi rfl
  · rintro ball ⟨F, S', hle', rfl, rfl⟩
    have hball : F.ball S' = ballOf (F.form S₉) := by
      rw [ball_form]
      exact congrArg ballOf (hreg _ _ hle')
    rw [hball]
    have hsh := shaped_ball S₉ (Nat.le_trans (hfd F rfl) (by decide))
    have hnn : isNoneB (.dat (dueOf S₉ (some F))) = false := isNone_form S₉ F
    refine S_cons <| X_ret <| T_andv <| T_cmp <| T_name ((lkp_ne rfl).trans rfl) <| T_cnone <| O_isnot ⟨_, rfl, fun _ => ?_, fun h => (by rw [hnn] at h; cases h)⟩
    refine T_and1 <| T_cmp <| T_attrX ok (T_name (lkp_same rfl) ⟨15, 16, false, ballOf (F.form S₉), rfl, by decide, rfl, rfl, ?_⟩)
    refine T_tuple <| Ts_cons <| T_cstr <| Ts_cons <| T_num_ 16 ok <| Ts_cons <| T_tuple <| Ts_cons <| T_name ((lkp_ne rfl).trans rfl) <| Ts_cons <| T_tuple <| Ts_cons <| T_cstr <| Ts_cons <| T_num_ 25 ok <| Ts_nil ⟨[.str "a", .int 25], rfl, leT tT, Ts_nil ⟨[F.form S₉, .tuple [.str "a", .int 25]], rfl, leT tT, Ts_nil ⟨[.str "s", .int 16, .tuple [F.form S₉, .tuple [.str "a", .int 25]]], rfl, leT tT, ?_⟩⟩⟩
    refine O_eqd hsh hsh ?_
    have hr := PySem.SeqAt.eqv_refl (ballOf (F.form S₉)) (Bool.and_eq_true_iff.mp hsh).1
    show Fl.ret (.dat (.bool (PyData.eqv (ballOf (F.form S₉)) (ballOf (F.form S₉))))) = _
    rw [hr]
end
theorem g_law (P : Params) : nsIn (KF P) mainGlobals "law" = some (some (.ref 451)) := by kernel_rfl
theorem entry : WalkO qF looseF (fun _ _ => True) (fun w h => InK KF w h) RW0 lawRec [] (fun f vs => PySem.call f vs) := by
  intro w s₀ s₁ mg mb G Y a o pm cd doc dV kV ho hd hcd hD hmg hg args vals as hpre hlay hrd hwl hlo
  have hK : (KF w.params).In s₁.heap := Y
  have hT := topRead_of G.T
  have ha : mg "law" = some (.ref 451) := mg_of hK hT.g (g_law _)
  obtain rfl : a = 451 := by
    have h : mg "law" = some (.ref a) := hmg
    rw [ha] at h; cases h; rfl
  wrow_args hpre hlay hrd hwl hlo
  rename_i is hs hlay0 hLay hr1 hl2 as1 as2 ad vs as3 hL ra w1 r0 hI hr2 hlen htrue
  have ok : CxOk ⟨w, s₁.heap, mg, mb, s₁.gens, s₁.os⟩ := ⟨hK, hT⟩
  have hz : is.length ≤ 63 := by lia
  show wpAny (model PW w) callerA (call (.ref 451) [.ref ad]) _ _ s₁
  have hsc : (fS (T 58)).names.lookup ("script" : Str) = some NameKind.local := by decide +kernel
  refine wpAny_call ?_
  refine codeAny_call_def (fd := fnX _ _ _ _ _ [] _ _ _ _ _ _ _) (body := fB (T 58)) (binds := [("script", .ref ad)]) (by decide +kernel) (hK _ _ (show _ = some (o451_9 w.params) by kernel_rfl)) rfl hT.nolimit (codeRec_of hK (by kernel_rfl)) rfl (BindsTo.of_eq rfl) (by decide +kernel) (by
    intro x hx
    rw [List.mem_singleton.mp hx]
    exact hsc) (fun h₁ hns hk₁ => ?_)
  have hns' := hns
  obtain ⟨oL, es, ep, gL, dL, _⟩ := hns'
  have nb : s₁.heap.get? s₁.heap.objs.size = none := Heap.get?_none_of_le (Nat.le_refl _)
  have rd : ∀ {vs : List Value} {is : List Int}, IntsAre vs is → ReadsAll s₁.heap vs (is.map .int) [] := by
    intro vs is h
    induction h with
    | nil => exact .nil
    | cons n t _ ih => exact .cons (.int n t) ih
  obtain ⟨ol, el, cl, nl, dl⟩ := hL
  have dr : DRep (fun _ => none) s₁.heap (.list (is.map .int)) (.ref ad) := by
    refine ⟨_, .list el cl dl (by simpa using rd hI), fun b hb => ?_⟩
    rw [List.mem_singleton.mp hb]
    exact ⟨⟨ol, _, _, el, dl⟩, fun _ q => nomatch q⟩
  have C : Carry (fun _ => none) s₁.heap (fun _ => none) h₁ := ⟨fun a o _ _ e _ _ => ⟨o, hk₁ _ _ e, rfl, rfl⟩, fun a o _ _ e _ q => ⟨q, o, hk₁ _ _ e, rfl, rfl⟩⟩
  have R : Rel ⟨w, s₁.heap, mg, mb, s₁.gens, s₁.os⟩ ⟨sk [108, 97, 119], fS (T 58), s₁.heap.objs.size, 451, .ref 450, [], fun _ => none, h₁, callerA.deeper (envX (sk [108, 97, 119]) (fS (T 58)) s₁.heap.objs.size 451 (.ref 450) []), [], []⟩ (fun _ => none) [("script", .dat (.list (is.map .int)))] (fun _ => .free) { s₁ with heap := h₁, toks := s₁.toks + 1 } := by
    refine ⟨⟨fun b o e => hk₁ _ _ e, fun n a _ e => (nomatch e), fun n a _ e => (nomatch e), fun _ _ => rfl, fun n k a e _ => (nomatch e), ⟨(fun q => by have e : (fS (T 58)).kind = .module := q; rw [show (fS (T 58)).kind = .function from rfl] at e; cases e), ⟨_, _, rfl, nb, gL, (fun vs q => by rw [dL] at q; cases q)⟩, trivial⟩, rfl, rfl⟩, ⟨_, hns, fun x l e => ?_⟩, ⟨.refl _ _, fun e he => nomatch he⟩, fun e he => (nomatch he), fun _ h => nomatch h⟩
    rw [lk_cons] at e
    by_cases hx : ("script" : Str) = x
    · rw [if_pos hx] at e
      cases e
      refine ⟨.ref ad, ?_, DRep.carry C dr⟩
      subst hx
      rfl
    · rw [if_neg hx] at e; cases e
  have aok : AOk (callerA.deeper (envX (sk [108, 97, 119]) (fS (T 58)) s₁.heap.objs.size 451 (.ref 450) [])) 110 ⟨sk [108, 97, 119], fS (T 58), s₁.heap.objs.size, 451, .ref 450, [], fun _ => none, h₁, callerA.deeper (envX (sk [108, 97, 119]) (fS (T 58)) s₁.heap.objs.size 451 (.ref 450) []), [], []⟩ :=
    ⟨.inr rfl, Around.frames_deeper rfl, by show 1 + claimMargin + 1 + 110 < 990; decide, by show 4 + 3 + 10 * 110 + 100 < 9900; decide, .refl _, Around.frames_deeper rfl⟩
  refine wpAny_mono (law_TL (cn := sk [108, 97, 119]) (cd := .ref 450) (fD := ⟨s₁.heap.objs.size, [], fun _ => none, h₁, callerA.deeper (envX (sk [108, 97, 119]) (fS (T 58)) s₁.heap.objs.size 451 (.ref 450) [])⟩) ok is hz _ _ _ aok R) (fun f s' ⟨hf, hst, hg', ho'⟩ => ?_) fun _ _ x => x.elim
  subst hf
  refine ⟨.inl ⟨.bool true, .bool true, [], rfl, fun _ => rfl, .bool true, ?_, fun q => ?_⟩, OldK.of_keep hst, ho', .of_eq (hg'.trans hg)⟩
  · show (WShape.has [] (.bool true) .bool && WTm.holds [] (.eq .res (.lit (.bool true))) { args := [ofPy (PyData.list (List.map PyData.int is))], res := some (.bool true), after := [ofPy (PyData.list (List.map PyData.int is))] }) = true
    refine Bool.and_eq_true_iff.mpr ⟨by first | rfl | decide +kernel | kernel_rfl | simp [WShape.has, WShape.arms], ?_⟩
    simp [WTm.holds, WTm.value, W.same]
  · exact ⟨.nil, fun _ h => nomatch h⟩
end Mine
theorem PySem.Challenge.cw_rh0082_01_holds : PySem.Challenge.rw_rh0082_01.Holds :=
  Mine.hdF Mine.entry
