import PyProof.Rows.All
import Wide.All
import OpenK.AllK
import Wide.FinOn
import PySem.Challenge.RW_nz0193_01
section
open PySem PySem.W PySem.Calls PyProof.Rows
set_option Elab.async false
set_option maxRecDepth 100000
set_option maxHeartbeats 8000000
namespace Mine
noncomputable def S (l : List Nat) : Str := ⟨l.toArray⟩
theorem o0 : Str.ofString "__name__" = S [95, 95, 110, 97, 109, 101, 95, 95] := rfl
theorem o1 : Str.ofString "perlcore.errors" = S [112, 101, 114, 108, 99, 111, 114, 101, 46, 101, 114, 114, 111, 114, 115] := rfl
theorem o2 : Str.ofString "PerlError" = S [80, 101, 114, 108, 69, 114, 114, 111, 114] := rfl
theorem o3 : Str.ofString "Exception" = S [69, 120, 99, 101, 112, 116, 105, 111, 110] := rfl
theorem o4 : Str.ofString "__init__" = S [95, 95, 105, 110, 105, 116, 95, 95] := rfl
theorem o5 : Str.ofString "self" = S [115, 101, 108, 102] := rfl
theorem o6 : Str.ofString "text" = S [116, 101, 120, 116] := rfl
theorem o7 : Str.ofString "SyntaxDie" = S [83, 121, 110, 116, 97, 120, 68, 105, 101] := rfl
theorem o8 : Str.ofString "line" = S [108, 105, 110, 101] := rfl
theorem o9 : Str.ofString "perlcore.quotes" = S [112, 101, 114, 108, 99, 111, 114, 101, 46, 113, 117, 111, 116, 101, 115] := rfl
theorem o10 : Str.ofString "CLOSERS" = S [67, 76, 79, 83, 69, 82, 83] := rfl
theorem o11 : Str.ofString "(" = S [40] := rfl
theorem o12 : Str.ofString "[" = S [91] := rfl
theorem o13 : Str.ofString "{" = S [123] := rfl
theorem o14 : Str.ofString "<" = S [60] := rfl
theorem o15 : Str.ofString ")" = S [41] := rfl
theorem o16 : Str.ofString "]" = S [93] := rfl
theorem o17 : Str.ofString "}" = S [125] := rfl
theorem o18 : Str.ofString ">" = S [62] := rfl
theorem o19 : Str.ofString "SHORT_ESCAPES" = S [83, 72, 79, 82, 84, 95, 69, 83, 67, 65, 80, 69, 83] := rfl
theorem o20 : Str.ofString "n" = S [110] := rfl
theorem o21 : Str.ofString "t" = S [116] := rfl
theorem o22 : Str.ofString "r" = S [114] := rfl
theorem o23 : Str.ofString "f" = S [102] := rfl
theorem o24 : Str.ofString "b" = S [98] := rfl
theorem o25 : Str.ofString "a" = S [97] := rfl
theorem o26 : Str.ofString "e" = S [101] := rfl
theorem o27 : Str.ofString "\n" = S [10] := rfl
theorem o28 : Str.ofString "\t" = S [9] := rfl
theorem o29 : Str.ofString "\u000d" = S [13] := rfl
theorem o30 : Str.ofString "\u000c" = S [12] := rfl
theorem o31 : Str.ofString "\u0008" = S [8] := rfl
theorem o32 : Str.ofString "\u0007" = S [7] := rfl
theorem o33 : Str.ofString "\u001b" = S [27] := rfl
theorem o34 : Str.ofString "CODE_FIGURES" = S [67, 79, 68, 69, 95, 70, 73, 71, 85, 82, 69, 83] := rfl
theorem o35 : Str.ofString "0123456789abcdef" = S [48, 49, 50, 51, 52, 53, 54, 55, 56, 57, 97, 98, 99, 100, 101, 102] := rfl
theorem o36 : Str.ofString "TOP_CODE" = S [84, 79, 80, 95, 67, 79, 68, 69] := rfl
theorem o37 : Str.ofString "closer_of" = S [99, 108, 111, 115, 101, 114, 95, 111, 102] := rfl
theorem o38 : Str.ofString "opening" = S [111, 112, 101, 110, 105, 110, 103] := rfl
theorem o39 : Str.ofString "get" = S [103, 101, 116] := rfl
theorem o40 : Str.ofString "line_of_place" = S [108, 105, 110, 101, 95, 111, 102, 95, 112, 108, 97, 99, 101] := rfl
theorem o41 : Str.ofString "at" = S [97, 116] := rfl
theorem o42 : Str.ofString "count" = S [99, 111, 117, 110, 116] := rfl
theorem o43 : Str.ofString "delimited" = S [100, 101, 108, 105, 109, 105, 116, 101, 100] := rfl
theorem o44 : Str.ofString "closing" = S [99, 108, 111, 115, 105, 110, 103] := rfl
theorem o45 : Str.ofString "depth" = S [100, 101, 112, 116, 104] := rfl
theorem o46 : Str.ofString "end" = S [101, 110, 100] := rfl
theorem o47 : Str.ofString "len" = S [108, 101, 110] := rfl
theorem o48 : Str.ofString "sign" = S [115, 105, 103, 110] := rfl
theorem o49 : Str.ofString "\\" = S [92] := rfl
theorem o50 : Str.ofString "Can't find string terminator anywhere before EOF" = S [67, 97, 110, 39, 116, 32, 102, 105, 110, 100, 32, 115, 116, 114, 105, 110, 103, 32, 116, 101, 114, 109, 105, 110, 97, 116, 111, 114, 32, 97, 110, 121, 119, 104, 101, 114, 101, 32, 98, 101, 102, 111, 114, 101, 32, 69, 79, 70] := rfl
theorem o51 : Str.ofString "unguarded" = S [117, 110, 103, 117, 97, 114, 100, 101, 100] := rfl
theorem o52 : Str.ofString "inner" = S [105, 110, 110, 101, 114] := rfl
theorem o53 : Str.ofString "is_plain" = S [105, 115, 95, 112, 108, 97, 105, 110] := rfl
theorem o54 : Str.ofString "out" = S [111, 117, 116] := rfl
theorem o55 : Str.ofString "" = S [] := rfl
theorem o56 : Str.ofString "follower" = S [102, 111, 108, 108, 111, 119, 101, 114] := rfl
theorem o57 : Str.ofString "read_q" = S [114, 101, 97, 100, 95, 113] := rfl
theorem o58 : Str.ofString "read_qw" = S [114, 101, 97, 100, 95, 113, 119] := rfl
theorem o59 : Str.ofString "words" = S [119, 111, 114, 100, 115] := rfl
theorem o60 : Str.ofString "word" = S [119, 111, 114, 100] := rfl
theorem o61 : Str.ofString " \t\n\u000d\u000c" = S [32, 9, 10, 13, 12] := rfl
theorem o62 : Str.ofString "append" = S [97, 112, 112, 101, 110, 100] := rfl
theorem o63 : Str.ofString "digits_value" = S [100, 105, 103, 105, 116, 115, 95, 118, 97, 108, 117, 101] := rfl
theorem o64 : Str.ofString "most" = S [109, 111, 115, 116] := rfl
theorem o65 : Str.ofString "base" = S [98, 97, 115, 101] := rfl
theorem o66 : Str.ofString "value" = S [118, 97, 108, 117, 101] := rfl
theorem o67 : Str.ofString "digit" = S [100, 105, 103, 105, 116] := rfl
theorem o68 : Str.ofString "find" = S [102, 105, 110, 100] := rfl
theorem o69 : Str.ofString "lower" = S [108, 111, 119, 101, 114] := rfl
theorem o70 : Str.ofString "coded_sign" = S [99, 111, 100, 101, 100, 95, 115, 105, 103, 110] := rfl
theorem o71 : Str.ofString "code" = S [99, 111, 100, 101] := rfl
theorem o72 : Str.ofString "code point too great" = S [99, 111, 100, 101, 32, 112, 111, 105, 110, 116, 32, 116, 111, 111, 32, 103, 114, 101, 97, 116] := rfl
theorem o73 : Str.ofString "chr" = S [99, 104, 114] := rfl
theorem o74 : Str.ofString "braced_code" = S [98, 114, 97, 99, 101, 100, 95, 99, 111, 100, 101] := rfl
theorem o75 : Str.ofString "Missing right brace" = S [77, 105, 115, 115, 105, 110, 103, 32, 114, 105, 103, 104, 116, 32, 98, 114, 97, 99, 101] := rfl
theorem o76 : Str.ofString "behind" = S [98, 101, 104, 105, 110, 100] := rfl
theorem o77 : Str.ofString "escape_at" = S [101, 115, 99, 97, 112, 101, 95, 97, 116] := rfl
theorem o78 : Str.ofString "01234567" = S [48, 49, 50, 51, 52, 53, 54, 55] := rfl
theorem o79 : Str.ofString "x" = S [120] := rfl
theorem o80 : Str.ofString "o" = S [111] := rfl
theorem o81 : Str.ofString "N" = S [78] := rfl
theorem o82 : Str.ofString "{U+" = S [123, 85, 43] := rfl
theorem o83 : Str.ofString "c" = S [99] := rfl
theorem o84 : Str.ofString "ord" = S [111, 114, 100] := rfl
theorem o85 : Str.ofString "great_letter" = S [103, 114, 101, 97, 116, 95, 108, 101, 116, 116, 101, 114] := rfl
theorem o86 : Str.ofString "z" = S [122] := rfl
theorem o87 : Str.ofString "small_letter" = S [115, 109, 97, 108, 108, 95, 108, 101, 116, 116, 101, 114] := rfl
theorem o88 : Str.ofString "A" = S [65] := rfl
theorem o89 : Str.ofString "Z" = S [90] := rfl
theorem o90 : Str.ofString "is_plain_word_sign" = S [105, 115, 95, 112, 108, 97, 105, 110, 95, 119, 111, 114, 100, 95, 115, 105, 103, 110] := rfl
theorem o91 : Str.ofString "0" = S [48] := rfl
theorem o92 : Str.ofString "9" = S [57] := rfl
theorem o93 : Str.ofString "_" = S [95] := rfl
theorem o94 : Str.ofString "cased_text" = S [99, 97, 115, 101, 100, 95, 116, 101, 120, 116] := rfl
theorem o95 : Str.ofString "mark" = S [109, 97, 114, 107] := rfl
theorem o96 : Str.ofString "u" = S [117] := rfl
theorem o97 : Str.ofString "U" = S [85] := rfl
theorem o98 : Str.ofString "l" = S [108] := rfl
theorem o99 : Str.ofString "L" = S [76] := rfl
theorem o100 : Str.ofString "Q" = S [81] := rfl
theorem o101 : Str.ofString "here_end" = S [104, 101, 114, 101, 95, 101, 110, 100] := rfl
theorem o102 : Str.ofString "lines" = S [108, 105, 110, 101, 115] := rfl
theorem o103 : Str.ofString "is_indented" = S [105, 115, 95, 105, 110, 100, 101, 110, 116, 101, 100] := rfl
theorem o104 : Str.ofString "range" = S [114, 97, 110, 103, 101] := rfl
theorem o105 : Str.ofString "row" = S [114, 111, 119] := rfl
theorem o106 : Str.ofString "lstrip" = S [108, 115, 116, 114, 105, 112] := rfl
theorem o107 : Str.ofString " \t" = S [32, 9] := rfl
theorem o108 : Str.ofString "here_body" = S [104, 101, 114, 101, 95, 98, 111, 100, 121] := rfl
theorem o109 : Str.ofString "margin" = S [109, 97, 114, 103, 105, 110] := rfl
theorem o110 : Str.ofString "place" = S [112, 108, 97, 99, 101] := rfl
theorem o111 : Str.ofString "Indentation of here-doc doesn't match delimiter" = S [73, 110, 100, 101, 110, 116, 97, 116, 105, 111, 110, 32, 111, 102, 32, 104, 101, 114, 101, 45, 100, 111, 99, 32, 100, 111, 101, 115, 110, 39, 116, 32, 109, 97, 116, 99, 104, 32, 100, 101, 108, 105, 109, 105, 116, 101, 114] := rfl
theorem o112 : Str.ofString "perlcore.interp" = S [112, 101, 114, 108, 99, 111, 114, 101, 46, 105, 110, 116, 101, 114, 112] := rfl
theorem o113 : Str.ofString "SHORT_CASES" = S [83, 72, 79, 82, 84, 95, 67, 65, 83, 69, 83] := rfl
theorem o114 : Str.ofString "ul" = S [117, 108] := rfl
theorem o115 : Str.ofString "PUNCTUATION" = S [80, 85, 78, 67, 84, 85, 65, 84, 73, 79, 78] := rfl
theorem o116 : Str.ofString "&,;!@/\"" = S [38, 44, 59, 33, 64, 47, 34] := rfl
theorem o117 : Str.ofString "is_name_start" = S [105, 115, 95, 110, 97, 109, 101, 95, 115, 116, 97, 114, 116] := rfl
theorem o118 : Str.ofString "variable_name_end" = S [118, 97, 114, 105, 97, 98, 108, 101, 95, 110, 97, 109, 101, 95, 101, 110, 100] := rfl
theorem o119 : Str.ofString "::" = S [58, 58] := rfl
theorem o120 : Str.ofString "quote_skip" = S [113, 117, 111, 116, 101, 95, 115, 107, 105, 112] := rfl
theorem o121 : Str.ofString "subscript_end" = S [115, 117, 98, 115, 99, 114, 105, 112, 116, 95, 101, 110, 100] := rfl
theorem o122 : Str.ofString "'" = S [39] := rfl
theorem o123 : Str.ofString "\"" = S [34] := rfl
theorem o124 : Str.ofString "strip" = S [115, 116, 114, 105, 112] := rfl
theorem o125 : Str.ofString " \t\n" = S [32, 9, 10] := rfl
theorem o126 : Str.ofString "digits_only" = S [100, 105, 103, 105, 116, 115, 95, 111, 110, 108, 121] := rfl
theorem o127 : Str.ofString "is_pattern_part" = S [105, 115, 95, 112, 97, 116, 116, 101, 114, 110, 95, 112, 97, 114, 116] := rfl
theorem o128 : Str.ofString "low" = S [108, 111, 119] := rfl
theorem o129 : Str.ofString "comma" = S [99, 111, 109, 109, 97] := rfl
theorem o130 : Str.ofString "high" = S [104, 105, 103, 104] := rfl
theorem o131 : Str.ofString "partition" = S [112, 97, 114, 116, 105, 116, 105, 111, 110] := rfl
theorem o132 : Str.ofString "," = S [44] := rfl
theorem o133 : Str.ofString "$" = S [36] := rfl
theorem o134 : Str.ofString "-" = S [45] := rfl
theorem o135 : Str.ofString "one_subscript" = S [111, 110, 101, 95, 115, 117, 98, 115, 99, 114, 105, 112, 116] := rfl
theorem o136 : Str.ofString "is_pattern" = S [105, 115, 95, 112, 97, 116, 116, 101, 114, 110] := rfl
theorem o137 : Str.ofString "all_subscripts" = S [97, 108, 108, 95, 115, 117, 98, 115, 99, 114, 105, 112, 116, 115] := rfl
theorem o138 : Str.ofString "begin" = S [98, 101, 103, 105, 110] := rfl
theorem o139 : Str.ofString "->" = S [45, 62] := rfl
theorem o140 : Str.ofString "base_end" = S [98, 97, 115, 101, 95, 101, 110, 100] := rfl
theorem o141 : Str.ofString "scalar_end" = S [115, 99, 97, 108, 97, 114, 95, 101, 110, 100] := rfl
theorem o142 : Str.ofString ")|" = S [41, 124] := rfl
theorem o143 : Str.ofString "#" = S [35] := rfl
theorem o144 : Str.ofString "array_end" = S [97, 114, 114, 97, 121, 95, 101, 110, 100] := rfl
theorem o145 : Str.ofString "add_part" = S [97, 100, 100, 95, 112, 97, 114, 116] := rfl
theorem o146 : Str.ofString "stack" = S [115, 116, 97, 99, 107] := rfl
theorem o147 : Str.ofString "part" = S [112, 97, 114, 116] := rfl
theorem o148 : Str.ofString "parts" = S [112, 97, 114, 116, 115] := rfl
theorem o149 : Str.ofString "close_case" = S [99, 108, 111, 115, 101, 95, 99, 97, 115, 101] := rfl
theorem o150 : Str.ofString "pop" = S [112, 111, 112] := rfl
theorem o151 : Str.ofString "case" = S [99, 97, 115, 101] := rfl
theorem o152 : Str.ofString "end_case" = S [101, 110, 100, 95, 99, 97, 115, 101] := rfl
theorem o153 : Str.ofString "begin_case" = S [98, 101, 103, 105, 110, 95, 99, 97, 115, 101] := rfl
theorem o154 : Str.ofString "ULF" = S [85, 76, 70] := rfl
theorem o155 : Str.ofString "F" = S [70] := rfl
theorem o156 : Str.ofString "take_case" = S [116, 97, 107, 101, 95, 99, 97, 115, 101] := rfl
theorem o157 : Str.ofString "pair" = S [112, 97, 105, 114] := rfl
theorem o158 : Str.ofString "\\L\\u" = S [92, 76, 92, 117] := rfl
theorem o159 : Str.ofString "\\U\\l" = S [92, 85, 92, 108] := rfl
theorem o160 : Str.ofString "E" = S [69] := rfl
theorem o161 : Str.ofString "take_piece" = S [116, 97, 107, 101, 95, 112, 105, 101, 99, 101] := rfl
theorem o162 : Str.ofString "piece" = S [112, 105, 101, 99, 101] := rfl
theorem o163 : Str.ofString "@" = S [64] := rfl
theorem o164 : Str.ofString "expr" = S [101, 120, 112, 114] := rfl
theorem o165 : Str.ofString "parts_of" = S [112, 97, 114, 116, 115, 95, 111, 102] := rfl
theorem o166 : Str.ofString "ULFQulE" = S [85, 76, 70, 81, 117, 108, 69] := rfl
theorem o167 : Str.ofString "plain_qq" = S [112, 108, 97, 105, 110, 95, 113, 113] := rfl
theorem o168 : Str.ofString "a variable where none may stand" = S [97, 32, 118, 97, 114, 105, 97, 98, 108, 101, 32, 119, 104, 101, 114, 101, 32, 110, 111, 110, 101, 32, 109, 97, 121, 32, 115, 116, 97, 110, 100] := rfl
theorem o169 : Str.ofString "law_nz0193_01" = S [108, 97, 119, 95, 110, 122, 48, 49, 57, 51, 95, 48, 49] := rfl
theorem o170 : Str.ofString "_law_ends" = S [95, 108, 97, 119, 95, 101, 110, 100, 115] := rfl
theorem o171 : Str.ofString "/" = S [47] := rfl
theorem o172 : Str.ofString "|" = S [124] := rfl
theorem o173 : Str.ofString "!" = S [33] := rfl
theorem o174 : Str.ofString "_law_plain" = S [95, 108, 97, 119, 95, 112, 108, 97, 105, 110] := rfl
theorem o175 : Str.ofString "aB0 _.;\n" = S [97, 66, 48, 32, 95, 46, 59, 10] := rfl
theorem o176 : Str.ofString "_law_escapes" = S [95, 108, 97, 119, 95, 101, 115, 99, 97, 112, 101, 115] := rfl
theorem o177 : Str.ofString "\\n" = S [92, 110] := rfl
theorem o178 : Str.ofString "\\t" = S [92, 116] := rfl
theorem o179 : Str.ofString "\\\\" = S [92, 92] := rfl
theorem o180 : Str.ofString "\\x41" = S [92, 120, 52, 49] := rfl
theorem o181 : Str.ofString "\\x{263a}" = S [92, 120, 123, 50, 54, 51, 97, 125] := rfl
theorem o182 : Str.ofString "☺" = S [9786] := rfl
theorem o183 : Str.ofString "\\101" = S [92, 49, 48, 49] := rfl
theorem o184 : Str.ofString "\\0" = S [92, 48] := rfl
theorem o185 : Str.ofString "\u0000" = S [0] := rfl
theorem o186 : Str.ofString "\\x" = S [92, 120] := rfl
theorem o187 : Str.ofString "\\x{}" = S [92, 120, 123, 125] := rfl
theorem o188 : Str.ofString "\\o{60}" = S [92, 111, 123, 54, 48, 125] := rfl
theorem o189 : Str.ofString "\\cA" = S [92, 99, 65] := rfl
theorem o190 : Str.ofString "\u0001" = S [1] := rfl
theorem o191 : Str.ofString "\\ca" = S [92, 99, 97] := rfl
theorem o192 : Str.ofString "\\c[" = S [92, 99, 91] := rfl
theorem o193 : Str.ofString "\\e" = S [92, 101] := rfl
theorem o194 : Str.ofString "\\q" = S [92, 113] := rfl
theorem o195 : Str.ofString "q" = S [113] := rfl
theorem o196 : Str.ofString "\\$" = S [92, 36] := rfl
theorem o197 : Str.ofString "\\@" = S [92, 64] := rfl
theorem o198 : Str.ofString "\\N{U+e9}" = S [92, 78, 123, 85, 43, 101, 57, 125] := rfl
theorem o199 : Str.ofString "é" = S [233] := rfl
theorem o200 : Str.ofString "\\x4" = S [92, 120, 52] := rfl
theorem o201 : Str.ofString "\u0004" = S [4] := rfl
theorem o202 : Str.ofString "\\7" = S [92, 55] := rfl
theorem o203 : Str.ofString "\\a" = S [92, 97] := rfl
theorem o204 : Str.ofString "\\r" = S [92, 114] := rfl
theorem o205 : Str.ofString "\\f" = S [92, 102] := rfl
theorem o206 : Str.ofString "\\b" = S [92, 98] := rfl
theorem o207 : Str.ofString "\\-" = S [92, 45] := rfl
theorem o208 : Str.ofString "\\377" = S [92, 51, 55, 55] := rfl
theorem o209 : Str.ofString "ÿ" = S [255] := rfl
theorem o210 : Str.ofString "_law_rows" = S [95, 108, 97, 119, 95, 114, 111, 119, 115] := rfl
theorem o211 : Str.ofString "  END" = S [32, 32, 69, 78, 68] := rfl
theorem o212 : Str.ofString "END " = S [69, 78, 68, 32] := rfl
theorem o213 : Str.ofString " b" = S [32, 98] := rfl
theorem o214 : Str.ofString "\tc" = S [9, 99] := rfl
theorem o215 : Str.ofString "ENDX" = S [69, 78, 68, 88] := rfl
theorem o216 : Str.ofString "    d" = S [32, 32, 32, 32, 100] := rfl
theorem o217 : Str.ofString "_law_take" = S [95, 108, 97, 119, 95, 116, 97, 107, 101] := rfl
theorem o218 : Str.ofString "tape" = S [116, 97, 112, 101] := rfl
theorem o219 : Str.ofString "_law_inner" = S [95, 108, 97, 119, 95, 105, 110, 110, 101, 114] := rfl
theorem o220 : Str.ofString "deep" = S [100, 101, 101, 112] := rfl
theorem o221 : Str.ofString "raw" = S [114, 97, 119] := rfl
theorem o222 : Str.ofString "quoted" = S [113, 117, 111, 116, 101, 100] := rfl
theorem o223 : Str.ofString "kept" = S [107, 101, 112, 116] := rfl
theorem o224 : Str.ofString "turn" = S [116, 117, 114, 110] := rfl
theorem o225 : Str.ofString "way" = S [119, 97, 121] := rfl
theorem o226 : Str.ofString "_law_refused" = S [95, 108, 97, 119, 95, 114, 101, 102, 117, 115, 101, 100] := rfl
theorem o227 : Str.ofString "fault" = S [102, 97, 117, 108, 116] := rfl
theorem o228 : Str.ofString "_law_quotes" = S [95, 108, 97, 119, 95, 113, 117, 111, 116, 101, 115] := rfl
theorem o229 : Str.ofString "({<['/|!" = S [40, 123, 60, 91, 39, 47, 124, 33] := rfl
theorem o230 : Str.ofString "ahead" = S [97, 104, 101, 97, 100] := rfl
theorem o231 : Str.ofString "x\n" = S [120, 10] := rfl
theorem o232 : Str.ofString "\n\n(" = S [10, 10, 40] := rfl
theorem o233 : Str.ofString "tail" = S [116, 97, 105, 108] := rfl
theorem o234 : Str.ofString "_law_words" = S [95, 108, 97, 119, 95, 119, 111, 114, 100, 115] := rfl
theorem o235 : Str.ofString " " = S [32] := rfl
theorem o236 : Str.ofString "B::c" = S [66, 58, 58, 99] := rfl
theorem o237 : Str.ofString "$x" = S [36, 120] := rfl
theorem o238 : Str.ofString "1,2" = S [49, 44, 50] := rfl
theorem o239 : Str.ofString " \t " = S [32, 9, 32] := rfl
theorem o240 : Str.ofString "\u000d\n" = S [13, 10] := rfl
theorem o241 : Str.ofString "z\\\\y" = S [122, 92, 92, 121] := rfl
theorem o242 : Str.ofString "z\\y" = S [122, 92, 121] := rfl
theorem o243 : Str.ofString "_law_cased" = S [95, 108, 97, 119, 95, 99, 97, 115, 101, 100] := rfl
theorem o244 : Str.ofString "is_small" = S [105, 115, 95, 115, 109, 97, 108, 108] := rfl
theorem o245 : Str.ofString "is_great" = S [105, 115, 95, 103, 114, 101, 97, 116] := rfl
theorem o246 : Str.ofString "_law_escaped" = S [95, 108, 97, 119, 95, 101, 115, 99, 97, 112, 101, 100] := rfl
theorem o247 : Str.ofString "want" = S [119, 97, 110, 116] := rfl
theorem o248 : Str.ofString "ab" = S [97, 98] := rfl
theorem o249 : Str.ofString "+" = S [43] := rfl
theorem o250 : Str.ofString "+Zy%x" = S [43, 90, 121, 37, 120] := rfl
theorem o251 : Str.ofString "told" = S [116, 111, 108, 100] := rfl
theorem o252 : Str.ofString "\\E" = S [92, 69] := rfl
theorem o253 : Str.ofString "_law_here" = S [95, 108, 97, 119, 95, 104, 101, 114, 101] := rfl
theorem o254 : Str.ofString "\t " = S [9, 32] := rfl
theorem o255 : Str.ofString "  " = S [32, 32] := rfl
theorem o256 : Str.ofString "rows" = S [114, 111, 119, 115] := rfl
theorem o257 : Str.ofString "wrong" = S [119, 114, 111, 110, 103] := rfl
theorem o258 : Str.ofString "END" = S [69, 78, 68] := rfl
theorem o259 : Str.ofString "." = S [46] := rfl
theorem o260 : Str.ofString "first" = S [102, 105, 114, 115, 116] := rfl
theorem o261 : Str.ofString "found" = S [102, 111, 117, 110, 100] := rfl
theorem o262 : Str.ofString "law" = S [108, 97, 119] := rfl
theorem o263 : Str.ofString "script" = S [115, 99, 114, 105, 112, 116] := rfl
theorem o264 : Str.ofString "/claim/cut.py" = S [47, 99, 108, 97, 105, 109, 47, 99, 117, 116, 46, 112, 121] := rfl
noncomputable def T : Program := by
  refine' (?f : PySem.Challenge.pw_nz0193_01 = ?p → Program) ?h
  case f => intro _; exact ?p
  case h =>
    delta PySem.Challenge.pw_nz0193_01
    dsimp only [o0, o1, o2, o3, o4, o5, o6, o7, o8, o9, o10, o11, o12, o13, o14, o15, o16, o17, o18, o19, o20, o21, o22, o23, o24, o25, o26, o27, o28, o29, o30, o31, o32, o33, o34, o35, o36, o37, o38, o39, o40, o41, o42, o43, o44, o45, o46, o47, o48, o49, o50, o51, o52, o53, o54, o55, o56, o57, o58, o59, o60, o61, o62, o63, o64, o65, o66, o67, o68, o69, o70, o71, o72, o73, o74, o75, o76, o77, o78, o79, o80, o81, o82, o83, o84, o85, o86, o87, o88, o89, o90, o91, o92, o93, o94, o95, o96, o97, o98, o99, o100, o101, o102, o103, o104, o105, o106, o107, o108, o109, o110, o111, o112, o113, o114, o115, o116, o117, o118, o119, o120, o121, o122, o123, o124, o125, o126, o127, o128, o129, o130, o131, o132, o133, o134, o135, o136, o137, o138, o139, o140, o141, o142, o143, o144, o145, o146, o147, o148, o149, o150, o151, o152, o153, o154, o155, o156, o157, o158, o159, o160, o161, o162, o163, o164, o165, o166, o167, o168, o169, o170, o171, o172, o173, o174, o175, o176, o177, o178, o179, o180, o181, o182, o183, o184, o185, o186, o187, o188, o189, o190, o191, o192, o193, o194, o195, o196, o197, o198, o199, o200, o201, o202, o203, o204, o205, o206, o207, o208, o209, o210, o211, o212, o213, o214, o215, o216, o217, o218, o219, o220, o221, o222, o223, o224, o225, o226, o227, o228, o229, o230, o231, o232, o233, o234, o235, o236, o237, o238, o239, o240, o241, o242, o243, o244, o245, o246, o247, o248, o249, o250, o251, o252, o253, o254, o255, o256, o257, o258, o259, o260, o261, o262, o263, o264]
    exact rfl
theorem T_eq : PySem.Challenge.pw_nz0193_01 = T := by kernel_rfl
noncomputable def mE : Value := .str (S [112, 101, 114, 108, 99, 111, 114, 101, 46, 101, 114, 114, 111, 114, 115]) 187
noncomputable def mQ : Value := .str (S [112, 101, 114, 108, 99, 111, 114, 101, 46, 113, 117, 111, 116, 101, 115]) 244
noncomputable def mI : Value := .str (S [112, 101, 114, 108, 99, 111, 114, 101, 46, 105, 110, 116, 101, 114, 112]) 445
noncomputable def mL : Value := .str (S [108, 97, 119, 95, 110, 122, 48, 49, 57, 51, 95, 48, 49]) 638
noncomputable def fdAt (i a : Nat) (pm : Value) : FuncData := match T.main.body[i]? with
  | some (.FunctionDef name args body _ _ _ scope _ _ _) => docDef name args body scope pm (.ref (a - 1)) .none
  | _ => default
noncomputable def fnAt (i a : Nat) (pm : Value) : Obj := ⟨.type "function", none, .func (fdAt i a pm), #[]⟩
noncomputable def initFd (i : Nat) (q : Str) (c : Addr) : FuncData := match T.main.body[i]? with
  | some (.ClassDef _ _ _ [.FunctionDef name args body _ _ _ scope _ _ _] _ _ _ _ _ _ _) => { docDef name args body scope mE (.ref c) .none with qualname := q }
  | _ => default
noncomputable def initAt (i : Nat) (q : Str) (c : Addr) : Obj := ⟨.type "function", none, .func (initFd i q c), #[]⟩
noncomputable def fnRows : List (Nat × Addr × Value) := [
  (8, 62, mQ),
  (9, 69, mQ),
  (10, 76, mQ),
  (11, 83, mQ),
  (12, 90, mQ),
  (13, 97, mQ),
  (14, 104, mQ),
  (15, 111, mQ),
  (16, 118, mQ),
  (17, 125, mQ),
  (18, 132, mQ),
  (19, 139, mQ),
  (20, 146, mQ),
  (21, 153, mQ),
  (22, 160, mQ),
  (23, 167, mQ),
  (38, 251, mI),
  (39, 258, mI),
  (40, 265, mI),
  (41, 272, mI),
  (42, 279, mI),
  (43, 286, mI),
  (44, 293, mI),
  (45, 300, mI),
  (47, 307, mL),
  (49, 314, mL),
  (50, 321, mL),
  (51, 328, mL),
  (52, 335, mL),
  (53, 342, mL),
  (54, 349, mL),
  (55, 356, mL),
  (56, 363, mL),
  (57, 370, mL),
  (58, 377, mL),
  (59, 384, mL)]
noncomputable def codeRows : List (Addr × Str) := [
  (61, S [99, 108, 111, 115, 101, 114, 95, 111, 102]),
  (68, S [108, 105, 110, 101, 95, 111, 102, 95, 112, 108, 97, 99, 101]),
  (75, S [100, 101, 108, 105, 109, 105, 116, 101, 100]),
  (82, S [117, 110, 103, 117, 97, 114, 100, 101, 100]),
  (89, S [114, 101, 97, 100, 95, 113]),
  (96, S [114, 101, 97, 100, 95, 113, 119]),
  (103, S [100, 105, 103, 105, 116, 115, 95, 118, 97, 108, 117, 101]),
  (110, S [99, 111, 100, 101, 100, 95, 115, 105, 103, 110]),
  (117, S [98, 114, 97, 99, 101, 100, 95, 99, 111, 100, 101]),
  (124, S [101, 115, 99, 97, 112, 101, 95, 97, 116]),
  (131, S [103, 114, 101, 97, 116, 95, 108, 101, 116, 116, 101, 114]),
  (138, S [115, 109, 97, 108, 108, 95, 108, 101, 116, 116, 101, 114]),
  (145, S [105, 115, 95, 112, 108, 97, 105, 110, 95, 119, 111, 114, 100, 95, 115, 105, 103, 110]),
  (152, S [99, 97, 115, 101, 100, 95, 116, 101, 120, 116]),
  (159, S [104, 101, 114, 101, 95, 101, 110, 100]),
  (166, S [104, 101, 114, 101, 95, 98, 111, 100, 121]),
  (250, S [97, 100, 100, 95, 112, 97, 114, 116]),
  (257, S [99, 108, 111, 115, 101, 95, 99, 97, 115, 101]),
  (264, S [101, 110, 100, 95, 99, 97, 115, 101]),
  (271, S [98, 101, 103, 105, 110, 95, 99, 97, 115, 101]),
  (278, S [116, 97, 107, 101, 95, 99, 97, 115, 101]),
  (285, S [116, 97, 107, 101, 95, 112, 105, 101, 99, 101]),
  (292, S [112, 97, 114, 116, 115, 95, 111, 102]),
  (299, S [112, 108, 97, 105, 110, 95, 113, 113]),
  (306, S [95, 108, 97, 119, 95, 101, 110, 100, 115]),
  (313, S [95, 108, 97, 119, 95, 101, 115, 99, 97, 112, 101, 115]),
  (320, S [95, 108, 97, 119, 95, 114, 111, 119, 115]),
  (327, S [95, 108, 97, 119, 95, 116, 97, 107, 101]),
  (334, S [95, 108, 97, 119, 95, 105, 110, 110, 101, 114]),
  (341, S [95, 108, 97, 119, 95, 114, 101, 102, 117, 115, 101, 100]),
  (348, S [95, 108, 97, 119, 95, 113, 117, 111, 116, 101, 115]),
  (355, S [95, 108, 97, 119, 95, 119, 111, 114, 100, 115]),
  (362, S [95, 108, 97, 119, 95, 99, 97, 115, 101, 100]),
  (369, S [95, 108, 97, 119, 95, 101, 115, 99, 97, 112, 101, 100]),
  (376, S [95, 108, 97, 119, 95, 104, 101, 114, 101]),
  (383, S [108, 97, 119]),
  (27, S [80, 101, 114, 108, 69, 114, 114, 111, 114, 46, 95, 95, 105, 110, 105, 116, 95, 95]),
  (47, S [83, 121, 110, 116, 97, 120, 68, 105, 101, 46, 95, 95, 105, 110, 105, 116, 95, 95])]
noncomputable def K (P : Params) : Frag := fnRows.map (fun r => (r.2.1, fnAt r.1 r.2.1 r.2.2)) ++ [
  (15, ⟨.type "tuple", none, .seq #[.type "Exception"] 0, #[]⟩),
  (28, initAt 1 (S [80, 101, 114, 108, 69, 114, 114, 111, 114, 46, 95, 95, 105, 110, 105, 116, 95, 95]) 27),
  (30, ⟨.type "dict", none, .dict #[⟨PyData.keyHash P (S [95, 95, 109, 111, 100, 117, 108, 101, 95, 95]), .str (S [95, 95, 109, 111, 100, 117, 108, 101, 95, 95]) 196, .str (S [112, 101, 114, 108, 99, 111, 114, 101, 46, 101, 114, 114, 111, 114, 115]) 187⟩, ⟨PyData.keyHash P (S [95, 95, 102, 105, 114, 115, 116, 108, 105, 110, 101, 110, 111, 95, 95]), .str (S [95, 95, 102, 105, 114, 115, 116, 108, 105, 110, 101, 110, 111, 95, 95]) 200, .int 2 199⟩, ⟨PyData.keyHash P (S [95, 95, 105, 110, 105, 116, 95, 95]), .str (S [95, 95, 105, 110, 105, 116, 95, 95]) 208, .ref 28⟩, ⟨PyData.keyHash P (S [95, 95, 115, 116, 97, 116, 105, 99, 95, 97, 116, 116, 114, 105, 98, 117, 116, 101, 115, 95, 95]), .str (S [95, 95, 115, 116, 97, 116, 105, 99, 95, 97, 116, 116, 114, 105, 98, 117, 116, 101, 115, 95, 95]) 210, .ref 29⟩, ⟨PyData.keyHash P (S [95, 95, 119, 101, 97, 107, 114, 101, 102, 95, 95]), .str (S [95, 95, 119, 101, 97, 107, 114, 101, 102, 95, 95]) 212, .ref 32⟩, ⟨PyData.keyHash P (S [95, 95, 100, 111, 99, 95, 95]), .str (S [95, 95, 100, 111, 99, 95, 95]) 213, .none⟩] 3, #[]⟩),
  (31, ⟨.type "type", none, .cls { name := S [80, 101, 114, 108, 69, 114, 114, 111, 114], bases := [.type "Exception"], mro := [.ref 31, .type "Exception", .type "BaseException", .type "object"], ns := 30, qualname := S [80, 101, 114, 108, 69, 114, 114, 111, 114], subclasses := [.ref 51] }, #[some (.ref 15), none, some (.str (S [80, 101, 114, 108, 69, 114, 114, 111, 114]) 189), some (.str (S [80, 101, 114, 108, 69, 114, 114, 111, 114]) 197), some (.builtin "Exception.__new__"), some (.bool true)]⟩),
  (32, ⟨.type "getset_descriptor", none, .fields #[.str (S [95, 95, 119, 101, 97, 107, 114, 101, 102, 95, 95]) 211, .ref 31, .builtin "ExceptionGroup.__weakref__", .none], #[]⟩),
  (35, ⟨.type "tuple", none, .seq #[.ref 31] 0, #[]⟩),
  (48, initAt 2 (S [83, 121, 110, 116, 97, 120, 68, 105, 101, 46, 95, 95, 105, 110, 105, 116, 95, 95]) 47),
  (50, ⟨.type "dict", none, .dict #[⟨PyData.keyHash P (S [95, 95, 109, 111, 100, 117, 108, 101, 95, 95]), .str (S [95, 95, 109, 111, 100, 117, 108, 101, 95, 95]) 225, .str (S [112, 101, 114, 108, 99, 111, 114, 101, 46, 101, 114, 114, 111, 114, 115]) 187⟩, ⟨PyData.keyHash P (S [95, 95, 102, 105, 114, 115, 116, 108, 105, 110, 101, 110, 111, 95, 95]), .str (S [95, 95, 102, 105, 114, 115, 116, 108, 105, 110, 101, 110, 111, 95, 95]) 229, .int 7 228⟩, ⟨PyData.keyHash P (S [95, 95, 105, 110, 105, 116, 95, 95]), .str (S [95, 95, 105, 110, 105, 116, 95, 95]) 238, .ref 48⟩, ⟨PyData.keyHash P (S [95, 95, 115, 116, 97, 116, 105, 99, 95, 97, 116, 116, 114, 105, 98, 117, 116, 101, 115, 95, 95]), .str (S [95, 95, 115, 116, 97, 116, 105, 99, 95, 97, 116, 116, 114, 105, 98, 117, 116, 101, 115, 95, 95]) 240, .ref 49⟩, ⟨PyData.keyHash P (S [95, 95, 100, 111, 99, 95, 95]), .str (S [95, 95, 100, 111, 99, 95, 95]) 241, .none⟩] 2, #[]⟩),
  (51, ⟨.type "type", none, .cls { name := S [83, 121, 110, 116, 97, 120, 68, 105, 101], bases := [.ref 31], mro := [.ref 51, .ref 31, .type "Exception", .type "BaseException", .type "object"], ns := 50, qualname := S [83, 121, 110, 116, 97, 120, 68, 105, 101] }, #[some (.ref 35), none, some (.str (S [83, 121, 110, 116, 97, 120, 68, 105, 101]) 218), some (.str (S [83, 121, 110, 116, 97, 120, 68, 105, 101]) 226), some (.builtin "Exception.__new__"), some (.bool true)]⟩),
  (54, ⟨.type "dict", none, .dict #[⟨PyData.keyHash P (S [40]), .str (S [40]) 246, .str (S [41]) 247⟩, ⟨PyData.keyHash P (S [91]), .str (S [91]) 248, .str (S [93]) 249⟩, ⟨PyData.keyHash P (S [123]), .str (S [123]) 250, .str (S [125]) 251⟩, ⟨PyData.keyHash P (S [60]), .str (S [60]) 252, .str (S [62]) 253⟩] 4, #[]⟩),
  (55, ⟨.type "dict", none, .dict #[⟨PyData.keyHash P (S [110]), .str (S [110]) 259, .str (S [10]) 260⟩, ⟨PyData.keyHash P (S [116]), .str (S [116]) 261, .str (S [9]) 262⟩, ⟨PyData.keyHash P (S [114]), .str (S [114]) 263, .str (S [13]) 264⟩, ⟨PyData.keyHash P (S [102]), .str (S [102]) 265, .str (S [12]) 266⟩, ⟨PyData.keyHash P (S [98]), .str (S [98]) 267, .str (S [8]) 268⟩, ⟨PyData.keyHash P (S [97]), .str (S [97]) 269, .str (S [7]) 270⟩, ⟨PyData.keyHash P (S [101]), .str (S [101]) 271, .str (S [27]) 272⟩] 7, #[]⟩)]
noncomputable def globRows : List (Str × Value) := [
  (S [99, 108, 111, 115, 101, 114, 95, 111, 102], .ref 62),
  (S [108, 105, 110, 101, 95, 111, 102, 95, 112, 108, 97, 99, 101], .ref 69),
  (S [100, 101, 108, 105, 109, 105, 116, 101, 100], .ref 76),
  (S [117, 110, 103, 117, 97, 114, 100, 101, 100], .ref 83),
  (S [114, 101, 97, 100, 95, 113], .ref 90),
  (S [114, 101, 97, 100, 95, 113, 119], .ref 97),
  (S [100, 105, 103, 105, 116, 115, 95, 118, 97, 108, 117, 101], .ref 104),
  (S [99, 111, 100, 101, 100, 95, 115, 105, 103, 110], .ref 111),
  (S [98, 114, 97, 99, 101, 100, 95, 99, 111, 100, 101], .ref 118),
  (S [101, 115, 99, 97, 112, 101, 95, 97, 116], .ref 125),
  (S [103, 114, 101, 97, 116, 95, 108, 101, 116, 116, 101, 114], .ref 132),
  (S [115, 109, 97, 108, 108, 95, 108, 101, 116, 116, 101, 114], .ref 139),
  (S [105, 115, 95, 112, 108, 97, 105, 110, 95, 119, 111, 114, 100, 95, 115, 105, 103, 110], .ref 146),
  (S [99, 97, 115, 101, 100, 95, 116, 101, 120, 116], .ref 153),
  (S [104, 101, 114, 101, 95, 101, 110, 100], .ref 160),
  (S [104, 101, 114, 101, 95, 98, 111, 100, 121], .ref 167),
  (S [97, 100, 100, 95, 112, 97, 114, 116], .ref 251),
  (S [99, 108, 111, 115, 101, 95, 99, 97, 115, 101], .ref 258),
  (S [101, 110, 100, 95, 99, 97, 115, 101], .ref 265),
  (S [98, 101, 103, 105, 110, 95, 99, 97, 115, 101], .ref 272),
  (S [116, 97, 107, 101, 95, 99, 97, 115, 101], .ref 279),
  (S [116, 97, 107, 101, 95, 112, 105, 101, 99, 101], .ref 286),
  (S [112, 97, 114, 116, 115, 95, 111, 102], .ref 293),
  (S [112, 108, 97, 105, 110, 95, 113, 113], .ref 300),
  (S [95, 108, 97, 119, 95, 101, 110, 100, 115], .ref 307),
  (S [95, 108, 97, 119, 95, 101, 115, 99, 97, 112, 101, 115], .ref 314),
  (S [95, 108, 97, 119, 95, 114, 111, 119, 115], .ref 321),
  (S [95, 108, 97, 119, 95, 116, 97, 107, 101], .ref 328),
  (S [95, 108, 97, 119, 95, 105, 110, 110, 101, 114], .ref 335),
  (S [95, 108, 97, 119, 95, 114, 101, 102, 117, 115, 101, 100], .ref 342),
  (S [95, 108, 97, 119, 95, 113, 117, 111, 116, 101, 115], .ref 349),
  (S [95, 108, 97, 119, 95, 119, 111, 114, 100, 115], .ref 356),
  (S [95, 108, 97, 119, 95, 99, 97, 115, 101, 100], .ref 363),
  (S [95, 108, 97, 119, 95, 101, 115, 99, 97, 112, 101, 100], .ref 370),
  (S [95, 108, 97, 119, 95, 104, 101, 114, 101], .ref 377),
  (S [108, 97, 119], .ref 384),
  (S [80, 101, 114, 108, 69, 114, 114, 111, 114], .ref 31),
  (S [83, 121, 110, 116, 97, 120, 68, 105, 101], .ref 51),
  (S [67, 76, 79, 83, 69, 82, 83], .ref 54),
  (S [83, 72, 79, 82, 84, 95, 69, 83, 67, 65, 80, 69, 83], .ref 55),
  (S [67, 79, 68, 69, 95, 70, 73, 71, 85, 82, 69, 83], .str (S [48, 49, 50, 51, 52, 53, 54, 55, 56, 57, 97, 98, 99, 100, 101, 102]) 281),
  (S [84, 79, 80, 95, 67, 79, 68, 69], .int 1114111 283),
  (S [83, 72, 79, 82, 84, 95, 67, 65, 83, 69, 83], .str (S [117, 108]) 447),
  (S [95, 108, 97, 119, 95, 112, 108, 97, 105, 110], .str (S [97, 66, 48, 32, 95, 46, 59, 10]) 646)]
noncomputable def absentRows : List Str := [S [108, 101, 110], S [99, 104, 114], S [111, 114, 100], S [114, 97, 110, 103, 101], S [69, 120, 99, 101, 112, 116, 105, 111, 110]]
noncomputable def bltRows : List (Str × Value) := [(S [108, 101, 110], .builtin "len"), (S [99, 104, 114], .builtin "chr"), (S [111, 114, 100], .builtin "ord"), (S [114, 97, 110, 103, 101], .type "range"), (S [69, 120, 99, 101, 112, 116, 105, 111, 110], .type "Exception")]
noncomputable def loose : List Str := (["PerlError", "SyntaxDie", "CLOSERS", "SHORT_ESCAPES", "CODE_FIGURES", "TOP_CODE", "closer_of", "line_of_place", "delimited", "unguarded", "read_q", "read_qw", "digits_value", "coded_sign", "braced_code", "escape_at", "great_letter", "small_letter", "is_plain_word_sign", "cased_text", "here_end", "here_body", "SHORT_CASES", "PUNCTUATION", "is_name_start", "variable_name_end", "quote_skip", "subscript_end", "digits_only", "is_pattern_part", "one_subscript", "all_subscripts", "base_end", "scalar_end", "array_end", "add_part", "close_case", "end_case", "begin_case", "take_case", "take_piece", "parts_of", "plain_qq", "_law_ends", "_law_plain", "_law_escapes", "_law_rows", "_law_take", "_law_inner", "_law_refused", "_law_quotes", "_law_words", "_law_cased", "_law_escaped", "_law_here"] : List String).map Str.ofString
noncomputable def isCode (h : Heap) (r : Addr × Str) : Bool := match h.get? r.1 with
  | some o => (match o.data with
    | .fields vs => (match vs[1]? with | some (Value.str q _) => q == r.2 | _ => false)
    | _ => false)
  | none => false
noncomputable def kAddrs : List Addr := fnRows.map (fun r => r.2.1) ++ [15, 28, 30, 31, 32, 35, 48, 50, 51, 54, 55]
noncomputable abbrev Seen := List (Option Obj) × Bool × List (Option Value) × List (Option Value) × List (Option Value)
noncomputable def Yf (s : Shared) : Seen := (kAddrs.map s.heap.get?, s.heap.isNs mainGlobals && s.heap.isNs builtinsNs && codeRows.all (isCode s.heap) && s.heap.isNs cStatics && (s.heap.nsMap cStatics (Str.ofString "sys.recursionlimit")).isNone && (s.heap.nsMap cStatics (Str.ofString "thirdparty.any")).isNone, globRows.map (fun r => s.heap.nsMap mainGlobals r.1), absentRows.map (s.heap.nsMap mainGlobals), bltRows.map (fun r => s.heap.nsMap builtinsNs r.1))
noncomputable def Ya (w : World) : Seen := ((K w.params).map fun p => some p.2, true, globRows.map (fun r => some r.2), absentRows.map (fun _ => none), bltRows.map (fun r => some r.2))
noncomputable def q : Program := view T [59]
theorem left0 (w : World) : (openEnds treeTable T (w.withFollow "special-get-raises" false) 4700).map (fun s => (openSeen q loose (importedModules T.main.body) (fun _ => true) true s, Yf s)) = some (openGood q loose, Ya (w.withFollow "special-get-raises" false)) := by
  unfold openEnds topFrom fencedOpening
  rw [PySem.W.Fast.te10274390034422433532, PySem.W.Fast.te14082659384304107361, PySem.W.Fast.te14289696077712309145, PySem.W.Fast.te1435165496053646825, PySem.W.Fast.te14364793385576792824]
  kernel_rfl
theorem left1 (w : World) : (openEnds treeTable T (w.withFollow "special-get-raises" true) 4700).map (fun s => (openSeen q loose (importedModules T.main.body) (fun _ => true) true s, Yf s)) = some (openGood q loose, Ya (w.withFollow "special-get-raises" true)) := by
  unfold openEnds topFrom fencedOpening
  rw [PySem.W.Fast.te10274390034422433532, PySem.W.Fast.te14082659384304107361, PySem.W.Fast.te14289696077712309145, PySem.W.Fast.te1435165496053646825, PySem.W.Fast.te14364793385576792824]
  kernel_rfl
theorem leftT (b : Bool) (w : World) : (openEnds treeTable T (w.withFollow "special-get-raises" b) 4700).map (fun s => (openSeen q loose (importedModules T.main.body) (fun _ => true) true s, Yf s)) = some (openGood q loose, Ya (w.withFollow "special-get-raises" b)) := by
  cases b
  · exact left0 w
  · exact left1 w
end Mine
end
section
open PySem PySem.W PySem.Calls PyProof.Rows
set_option Elab.async false
set_option maxRecDepth 100000
set_option maxHeartbeats 8000000
namespace Mine
abbrev rw := PySem.Challenge.rw_nz0193_01
noncomputable def dLaw : DefRec := match (T.main.body[59]? : Option Stmt) with
  | some (.FunctionDef name args body _ _ _ scope _ _ pos) => ⟨name, args, body, scope, pos⟩
  | _ => ⟨default, default, [], default, default⟩
theorem left : LeftO PySem.Challenge.pw_nz0193_01 q loose (fun _ => true) Yf Ya 4700 := fun w => by
  have h := leftT (w.params.followText "special-get-raises") w
  rw [World.withFollow_self] at h
  rw [T_eq]; exact h
theorem ns_unique {h : Heap} {a : Addr} {m m' : Str → Option Value} (x : h.Ns a m) (y : h.Ns a m') : m = m' := by
  obtain ⟨o, es, ep, e1, e2, e3, e4⟩ := x
  obtain ⟨o', es', ep', f1, f2, f3, f4⟩ := y
  rw [e1] at f1; cases f1
  rw [e2] at f2; cases f2
  funext n; rw [← e4, ← f4]
structure Base (w : World) (h : Heap) : Prop where
  k : (K w.params).In h
  glob : ∃ mg, h.Ns mainGlobals mg ∧ (∀ r ∈ globRows, mg r.1 = some r.2) ∧ ∀ x ∈ absentRows, mg x = none
  blt : ∃ mb, h.Ns builtinsNs mb ∧ ∀ r ∈ bltRows, mb r.1 = some r.2
  code : ∀ r ∈ codeRows, h.CodeRec (.ref r.1) r.2
  lim : h.NoLimit
  opq : ∃ mc, h.Ns cStatics mc ∧ mc (Str.ofString "thirdparty.any") = none
theorem Base.keeps {w : World} {h h' : Heap} (x : Base w h) (k : ∀ b o, h.get? b = some o → h'.get? b = some o) : Base w h' :=
  ⟨x.k.keeps k, let ⟨m, a, b⟩ := x.glob; ⟨m, a.keeps k, b⟩, let ⟨m, a, b⟩ := x.blt; ⟨m, a.keeps k, b⟩, fun r hr => (x.code r hr).keeps k, x.lim.keeps k, let ⟨m, a, b⟩ := x.opq; ⟨m, a.keeps k, b⟩⟩
theorem kAddrs_eq (P : Params) : kAddrs = (K P).map (·.1) := by kernel_rfl
theorem map_get {α : Type} {f g : α → Option Value} : ∀ {l : List α}, l.map f = l.map g → ∀ r ∈ l, f r = g r
  | [], _, r, hr => nomatch hr
  | a :: l, e, r, hr => by
    simp only [List.map_cons, List.cons.injEq] at e
    cases hr with
    | head => exact e.1
    | tail _ hr => exact map_get e.2 r hr
theorem isCode_of {h : Heap} {r : Addr × Str} (e : isCode h r = true) : h.CodeRec (.ref r.1) r.2 := by
  unfold isCode at e
  split at e
  · rename_i o ho
    split at e
    · rename_i vs hd
      split at e
      · rename_i qq t hv
        exact ⟨r.1, o, vs, t, rfl, ho, hd, by rw [hv]; rw [beq_iff_eq.mp e]⟩
      · cases e
    · cases e
  · cases e
theorem base_of (w : World) (s : Shared) (e : Yf s = Ya w) : Base w s.heap := by
  unfold Yf Ya at e
  simp only [Prod.mk.injEq, Bool.and_eq_true] at e
  obtain ⟨e1, ⟨⟨⟨⟨⟨e2, e3⟩, e4⟩, e8⟩, e9⟩, e10⟩, e5, e6, e7⟩ := e
  refine ⟨Frag.in_of (kAddrs_eq _) e1, ⟨_, .of_isNs e2, map_get e5, map_get (f := s.heap.nsMap mainGlobals) (g := fun _ => none) e6⟩, ⟨_, .of_isNs e3, map_get e7⟩, fun r hr => isCode_of (List.all_eq_true.mp e4 r hr), ⟨_, .of_isNs e8, Option.isNone_iff_eq_none.mp e9⟩, ⟨_, .of_isNs e8, Option.isNone_iff_eq_none.mp e10⟩⟩
noncomputable def rwT : OpenLaw := { prog := T, name := S [108, 97, 119], about := [S [100, 101, 108, 105, 109, 105, 116, 101, 100]], foot := 13, most := some 63, bound := none, writes := false }
theorem rw_eq : PySem.Challenge.rw_nz0193_01 = rwT := by
  unfold PySem.Challenge.rw_nz0193_01 rwT
  rw [T_eq]; rfl
theorem said : PySem.Challenge.rw_nz0193_01.wellSaid = true := by rw [rw_eq]; k_qdec
theorem head (call : WalkO q loose (fun _ _ => True) Base rw.row.toRowW dLaw [] fun f vs => PySem.call f vs) : rw.Holds := by
  refine holds_law said fun wellSaid => ?_
  refine PySem.W.holds_open (q := q) (loose := loose) (Xt := fun _ => true) (XP := fun _ _ => True) (Yf := Yf) (Ya := Ya) (YP := Base) (N := 4700) left base_of (fun _ _ _ h k => h.keeps k) (fun _ _ => trivial) (fun _ _ _ _ _ => trivial) (by kernel_rfl) ?hp (by kernel_rfl) (fun _ _ => recFacts_nil rfl) (by rfl) (by assumption) ?ok ⟨rfl, rfl, rfl, rfl, rfl, by decide +kernel⟩ ?hw call
  case hp => show Program.theDef PySem.Challenge.pw_nz0193_01 _ = _; rw [T_eq]; kernel_rfl
  case ok => show (chainsOk q && opensWell PySem.Challenge.pw_nz0193_01 && _) = true; rw [T_eq]; decide +kernel
  case hw => w_witness2
end Mine
end
section
open PySem PySem.W PySem.Calls PyProof.Rows
set_option Elab.async false
namespace Mine

/-- the small language's values -/
inductive V
  | none
  | bool (b : Bool)
  | int (i : Int)
  | str (x : List Nat)
  | tup (l : List V)
  | fl (l : List V)
  | lst (a : Addr)
  | dct (l : List (List Nat × List Nat))
  | rng (a b : Int)
  | die (line : Int)
  | undef

inductive Cell
  | frame
  | list (l : List V)

noncomputable abbrev MH := Addr → Option Cell

noncomputable abbrev pg : Program := PySem.Challenge.pw_nz0193_01
noncomputable def SZ : Nat := 2 ^ 20

noncomputable def look (l : List (List Nat × List Nat)) (k : List Nat) : Option (List Nat) := (l.find? fun e => e.1 == k).map (·.2)

/-- a SyntaxDie object, its fields aside -/
noncomputable def IsDie (h : Heap) (e dx : Addr) (line : Int) : Prop :=
  ∃ oe vs m t, h.get? e = some oe ∧ oe.cls = .ref 51 ∧ oe.dict = some dx ∧ oe.data = .fields vs ∧ h.Ns dx m ∧ m (S [108, 105, 110, 101]) = some (.int line t)

mutual
noncomputable def Rep (w : World) (h : Heap) (O : MH) : V → Value → Prop
  | .none, x => x = .none
  | .bool b, x => x = .bool b
  | .int i, x => ∃ t, x = .int i t
  | .str l, x => l.length ≤ SZ ∧ ∃ t, x = .str ⟨l.toArray⟩ t
  | .tup l, x => ∃ a xs, x = .ref a ∧ IsTup h a xs.toArray ∧ O a = none ∧ l.length ≤ SZ ∧ Reps w h O l xs
  | .fl l, x => ∃ a xs, x = .ref a ∧ h.IsList a xs.toArray ∧ O a = none ∧ l.length ≤ SZ ∧ Reps w h O l xs
  | .lst a, x => x = .ref a
  | .dct l, x => ∃ a, x = .ref a ∧ O a = none ∧ (a == sysModules) = false ∧ ∃ f : Str → Option Value, h.MapOf (strKind pg w) a f ∧
      ∀ k, match look l k with
        | some v => v.length ≤ SZ ∧ ∃ t, f ⟨k.toArray⟩ = some (.str ⟨v.toArray⟩ t)
        | none => f ⟨k.toArray⟩ = none
  | .rng lo hi, x => ∃ a t1 t2 t3, x = .ref a ∧ O a = none ∧ h.get? a = some { cls := .type "range", dict := none, data := .fields #[.int lo t1, .int hi t2, .int 1 t3], slots := #[] }
  | .die line, x => ∃ e dx, x = .ref e ∧ O e = none ∧ O dx = none ∧ IsDie h e dx line
  | .undef, _ => False
noncomputable def Reps (w : World) (h : Heap) (O : MH) : List V → List Value → Prop
  | [], xs => xs = []
  | v :: l, xs => ∃ x r, xs = x :: r ∧ Rep w h O v x ∧ Reps w h O l r
end

/-- what a step leaves as it was -/
noncomputable def Kept (O : MH) (h h' : Heap) : Prop :=
  ∀ b o, h.get? b = some o → (O b = none → h'.get? b = some o) ∧ (O b = some .frame → ∃ sl, h'.get? b = some { o with slots := sl })

noncomputable def kindOf : Option Cell → Nat
  | none => 0
  | some .frame => 1
  | some (.list _) => 2

noncomputable def Grow (h : Heap) (O O' : MH) : Prop := ∀ b o, h.get? b = some o → kindOf (O' b) = kindOf (O b)

theorem kind_none {c : Option Cell} : kindOf c = 0 ↔ c = none := by
  cases c with
  | none => simp [kindOf]
  | some c => cases c <;> simp [kindOf]
theorem kind_frame {c : Option Cell} : kindOf c = 1 ↔ c = some .frame := by
  cases c with
  | none => simp [kindOf]
  | some c => cases c <;> simp [kindOf]
theorem kind_list {c : Option Cell} : kindOf c = 2 ↔ ∃ l, c = some (.list l) := by
  cases c with
  | none => simp [kindOf]
  | some c => cases c <;> simp [kindOf]

theorem Grow.non {h : Heap} {O O' : MH} (g : Grow h O O') {b : Addr} {o : Obj} (e : h.get? b = some o) : O' b = none ↔ O b = none := by
  rw [← kind_none, ← kind_none, g b o e]
theorem Grow.frame {h : Heap} {O O' : MH} (g : Grow h O O') {b : Addr} {o : Obj} (e : h.get? b = some o) : O' b = some .frame ↔ O b = some .frame := by
  rw [← kind_frame, ← kind_frame, g b o e]
theorem Grow.refl (h : Heap) (O : MH) : Grow h O O := fun _ _ _ => rfl

mutual
theorem Rep.mono {w : World} {h h' : Heap} {O O' : MH} (k : Kept O h h') (g : Grow h O O') : ∀ (v : V) (x : Value), Rep w h O v x → Rep w h' O' v x
  | .none, x, r => r
  | .bool b, x, r => r
  | .int i, x, r => r
  | .str l, x, r => r
  | .tup l, x, r => by
    obtain ⟨a, xs, e, ⟨o, ho, hc⟩, hn, hl, hr⟩ := r
    exact ⟨a, xs, e, ⟨o, (k a o ho).1 hn, hc⟩, (g.non ho).mpr hn, hl, Reps.mono k g l xs hr⟩
  | .fl l, x, r => by
    obtain ⟨a, xs, e, ⟨o, ho, hc⟩, hn, hl, hr⟩ := r
    exact ⟨a, xs, e, ⟨o, (k a o ho).1 hn, hc⟩, (g.non ho).mpr hn, hl, Reps.mono k g l xs hr⟩
  | .lst a, x, r => r
  | .dct l, x, r => by
    obtain ⟨a, e, hn, hs, f, hm, hf⟩ := r
    obtain ⟨o, es, ep, ho, r⟩ := hm
    exact ⟨a, e, (g.non ho).mpr hn, hs, f, ⟨o, es, ep, (k a o ho).1 hn, r⟩, hf⟩
  | .rng lo hi, x, r => by
    obtain ⟨a, t1, t2, t3, e, hn, ho⟩ := r
    exact ⟨a, t1, t2, t3, e, (g.non ho).mpr hn, (k a _ ho).1 hn⟩
  | .die line, x, r => by
    obtain ⟨e, dx, hx, hn, hn2, oe, vs, m, t, ho, hc, hd, hdt, ⟨od, es, ep, hod, r⟩, hm⟩ := r
    exact ⟨e, dx, hx, (g.non ho).mpr hn, (g.non hod).mpr hn2, oe, vs, m, t, (k e oe ho).1 hn, hc, hd, hdt, ⟨od, es, ep, (k dx od hod).1 hn2, r⟩, hm⟩
  | .undef, x, r => r
theorem Reps.mono {w : World} {h h' : Heap} {O O' : MH} (k : Kept O h h') (g : Grow h O O') : ∀ (l : List V) (xs : List Value), Reps w h O l xs → Reps w h' O' l xs
  | [], xs, r => r
  | v :: l, xs, r => by
    obtain ⟨x, r', e, a, b⟩ := r
    exact ⟨x, r', e, Rep.mono k g v x a, Reps.mono k g l r' b⟩
end
theorem Kept.refl (O : MH) (h : Heap) : Kept O h h := fun _ o e => ⟨fun _ => e, fun _ => ⟨o.slots, e⟩⟩
theorem Kept.of_keeps {O : MH} {h h' : Heap} (k : ∀ b o, h.get? b = some o → h'.get? b = some o) : Kept O h h' := fun b o e => ⟨fun _ => k b o e, fun _ => ⟨o.slots, k b o e⟩⟩

/-- the walk's fixed surroundings -/
structure Cx where
  w : World
  B : Heap
  fr : List Env
  os : OsState

structure Inv (c : Cx) (O : MH) (s : Shared) : Prop where
  base : Base c.w c.B
  stay : c.B.StaysIn s.heap
  apart : ∀ b o, c.B.get? b = some o → O b = none
  lists : ∀ a l, O a = some (.list l) → ∃ xs : List Value, PlainL s.heap a xs.toArray ∧ l.length ≤ SZ ∧ Reps c.w s.heap O l xs
  frames : s.heap.FunFrames c.B c.fr
  owned : ∀ env ∈ c.fr, ∀ L, env.frame = some L → O L = some .frame
  framed : ∀ a, O a = some .frame → ∃ o, s.heap.get? a = some o ∧ ∀ vs, o.data ≠ .fields vs
  gens : s.gens = #[]
  os : s.os = c.os

structure Next (c : Cx) (s : Shared) (O : MH) (s' : Shared) (O' : MH) : Prop where
  inv : Inv c O' s'
  kept : Kept O s.heap s'.heap
  grow : Grow s.heap O O'

theorem Kept.trans {O O' : MH} {h h' h'' : Heap} (x : Kept O h h') (g : Grow h O O') (y : Kept O' h' h'') : Kept O h h'' := fun b o e => by
  refine ⟨fun q => ?_, fun q => ?_⟩
  · exact (y b o ((x b o e).1 q)).1 ((g.non e).mpr q)
  · obtain ⟨sl, e'⟩ := (x b o e).2 q
    obtain ⟨sl', e''⟩ := (y b _ e').2 ((g.frame e).mpr q)
    exact ⟨sl', e''⟩
/-- what stood stands, whatever is done to it -/
noncomputable def Stands (h h' : Heap) : Prop := ∀ b o, h.get? b = some o → ∃ o', h'.get? b = some o'
theorem Next.stands {c : Cx} {s s' : Shared} {O O' : MH} (n : Next c s O s' O') : Stands s.heap s'.heap := fun b o e => by
  cases hO : O b with
  | none => exact ⟨o, (n.kept b o e).1 hO⟩
  | some cl =>
    cases cl with
    | frame => obtain ⟨sl, e'⟩ := (n.kept b o e).2 hO; exact ⟨_, e'⟩
    | list l =>
      have := n.grow b o e
      rw [hO] at this
      obtain ⟨l', hl'⟩ := kind_list.mp this
      obtain ⟨xs, ⟨o', _, ho', _⟩, _⟩ := n.inv.lists b l' hl'
      exact ⟨o', ho'⟩
theorem Grow.trans {h h' : Heap} {O O' O'' : MH} (x : Grow h O O') (st : Stands h h') (y : Grow h' O' O'') : Grow h O O'' := fun b o e => by
  obtain ⟨o', e'⟩ := st b o e
  rw [y b o' e', x b o e]
theorem Next.trans {c : Cx} {s s' s'' : Shared} {O O' O'' : MH} (x : Next c s O s' O') (y : Next c s' O' s'' O'') : Next c s O s'' O'' :=
  ⟨y.inv, x.kept.trans x.grow y.kept, x.grow.trans x.stands y.grow⟩
theorem Next.refl {c : Cx} {s : Shared} {O : MH} (i : Inv c O s) : Next c s O s O := ⟨i, Kept.refl _ _, Grow.refl _ _⟩
theorem Next.rep {c : Cx} {s s' : Shared} {O O' : MH} (n : Next c s O s' O') {v : V} {x : Value} (r : Rep c.w s.heap O v x) : Rep c.w s'.heap O' v x := r.mono n.kept n.grow
theorem Next.reps {c : Cx} {s s' : Shared} {O O' : MH} (n : Next c s O s' O') {v : List V} {x : List Value} (r : Reps c.w s.heap O v x) : Reps c.w s'.heap O' v x := r.mono n.kept n.grow

/-- a step that changes nothing that stood -/
structure Pure (s s' : Shared) : Prop where
  keep : ∀ b o, s.heap.get? b = some o → s'.heap.get? b = some o
  gens : s'.gens = s.gens
  os : s'.os = s.os
theorem Pure.refl (s : Shared) : Pure s s := ⟨fun _ _ e => e, rfl, rfl⟩
theorem Pure.trans {s s' s'' : Shared} (x : Pure s s') (y : Pure s' s'') : Pure s s'' := ⟨fun b o e => y.keep b o (x.keep b o e), y.gens.trans x.gens, y.os.trans x.os⟩
theorem Pure.toks (s : Shared) (t : Nat) : Pure s { s with toks := t } := ⟨fun _ _ e => e, rfl, rfl⟩
theorem Pure.heap {s : Shared} {h' : Heap} (k : ∀ b o, s.heap.get? b = some o → h'.get? b = some o) (t : Nat) : Pure s { s with heap := h', toks := t } := ⟨k, rfl, rfl⟩

theorem Inv.frames_keep {c : Cx} {O : MH} {s : Shared} (i : Inv c O s) {h' : Heap} (k : ∀ b o, s.heap.get? b = some o → O b = some .frame → ∃ o', h'.get? b = some o' ∧ o'.data = o.data) : h'.FunFrames c.B c.fr := by
  have ho := i.owned
  have hf := i.frames
  generalize c.fr = fr at ho hf
  induction fr with
  | nil => trivial
  | cons env rest ih =>
    obtain ⟨hk, ⟨L, o, hL, hn, hg, hd⟩, hr⟩ := hf
    obtain ⟨o', ho', hd'⟩ := k L o hg (ho env (.head _) L hL)
    exact ⟨hk, ⟨L, o', hL, hn, ho', fun vs => hd' ▸ hd vs⟩, ih (fun e he => ho e (.tail _ he)) hr⟩

theorem Inv.pure {c : Cx} {O : MH} {s s' : Shared} (i : Inv c O s) (p : Pure s s') : Next c s O s' O := by
  refine ⟨⟨i.base, fun b o e => p.keep b o (i.stay b o e), i.apart, fun a l e => ?_, i.frames_keep fun b o e _ => ⟨o, p.keep b o e, rfl⟩, i.owned, fun a e => (let ⟨o, ho, hd⟩ := i.framed a e; ⟨o, p.keep a o ho, hd⟩), p.gens.trans i.gens, p.os.trans i.os⟩, Kept.of_keeps p.keep, Grow.refl _ _⟩
  obtain ⟨xs, hp, hl, hr⟩ := i.lists a l e
  exact ⟨xs, hp.keeps p.keep, hl, hr.mono (Kept.of_keeps p.keep) (Grow.refl _ _)⟩

noncomputable def upd (O : MH) (a : Addr) (c : Cell) : MH := fun b => if b = a then some c else O b
theorem upd_self (O : MH) (a : Addr) (c : Cell) : upd O a c a = some c := if_pos rfl
theorem upd_ne {O : MH} {a b : Addr} (c : Cell) (h : b ≠ a) : upd O a c b = O b := if_neg h

theorem Inv.there {c : Cx} {O : MH} {s : Shared} (i : Inv c O s) {a : Addr} (h : O a ≠ none) : ∃ o, s.heap.get? a = some o := by
  cases hO : O a with
  | none => exact absurd hO h
  | some cl =>
    cases cl with
    | list l' => obtain ⟨_, ⟨o, _, ho, _⟩, _⟩ := i.lists a l' hO; exact ⟨o, ho⟩
    | frame => obtain ⟨o, ho, _⟩ := i.framed a hO; exact ⟨o, ho⟩
theorem Inv.fresh {c : Cx} {O : MH} {s : Shared} (i : Inv c O s) {a : Addr} (h : s.heap.get? a = none) : O a = none := by
  cases hO : O a with
  | none => rfl
  | some cl => obtain ⟨o, ho⟩ := i.there (a := a) (by rw [hO]; simp); rw [h] at ho; cases ho
theorem Grow.upd_fresh {h : Heap} (O : MH) {a : Addr} (c : Cell) (hn : h.get? a = none) : Grow h O (upd O a c) := fun b o e => by
  rw [upd_ne]; rintro rfl; rw [hn] at e; cases e

/-- a new list is taken into ownership -/
theorem Inv.own {c : Cx} {O : MH} {s s' : Shared} {a : Addr} {l : List V} {xs : List Value} (i : Inv c O s) (p : Pure s s') (hn : s.heap.get? a = none) (hl : PlainL s'.heap a xs.toArray)
    (hs : l.length ≤ SZ) (hr : Reps c.w s.heap O l xs) : Next c s O s' (upd O a (.list l)) := by
  have hO := i.fresh hn
  have g : Grow s.heap O (upd O a (.list l)) := .upd_fresh O _ hn
  refine ⟨⟨i.base, (i.pure p).inv.stay, fun b o e => ?_, fun b l' e => ?_, (i.pure p).inv.frames, fun env he L hL => ?_, fun b e => ?_, (i.pure p).inv.gens, (i.pure p).inv.os⟩, .of_keeps p.keep, g⟩
  · rw [upd_ne]; exact i.apart b o e
    rintro rfl; rw [i.stay _ o e] at hn; cases hn
  · by_cases hb : b = a
    · subst hb; rw [upd_self] at e; cases e
      exact ⟨xs, hl, hs, hr.mono (.of_keeps p.keep) g⟩
    · rw [upd_ne _ hb] at e
      obtain ⟨ys, hp, h1, h2⟩ := i.lists b l' e
      exact ⟨ys, hp.keeps p.keep, h1, h2.mono (.of_keeps p.keep) g⟩
  · rw [upd_ne]; exact i.owned env he L hL
    rintro rfl; rw [i.owned env he _ hL] at hO; cases hO
  · by_cases hb : b = a
    · subst hb; rw [upd_self] at e; cases e
    · rw [upd_ne _ hb] at e
      exact (i.pure p).inv.framed b e

/-- an owned list is changed -/
theorem Inv.store {c : Cx} {O : MH} {s s' : Shared} {a : Addr} {l l' : List V} {xs : List Value} (i : Inv c O s) (ha : O a = some (.list l)) (sb : Heap.SameBut a s.heap s'.heap) (hg : s'.gens = s.gens) (ho : s'.os = s.os)
    (hl : PlainL s'.heap a xs.toArray) (hs : l'.length ≤ SZ) (hr : Reps c.w s.heap O l' xs) : Next c s O s' (upd O a (.list l')) := by
  have g : Grow s.heap O (upd O a (.list l')) := fun b o e => by
    by_cases hb : b = a
    · subst hb; rw [upd_self, ha]; rfl
    · rw [upd_ne _ hb]
  have k : Kept O s.heap s'.heap := fun b o e => by
    refine ⟨fun q => ?_, fun q => ⟨o.slots, ?_⟩⟩
    · rw [sb.2 b (by rintro rfl; rw [ha] at q; cases q)]; exact e
    · rw [sb.2 b (by rintro rfl; rw [ha] at q; cases q)]; exact e
  refine ⟨⟨i.base, fun b o e => (k b o (i.stay b o e)).1 (i.apart b o e), fun b o e => ?_, fun b l'' e => ?_, i.frames_keep fun b o e q => ?_, fun env he L hL => ?_, fun b e => ?_, hg.trans i.gens, ho.trans i.os⟩, k, g⟩
  · rw [upd_ne]; exact i.apart b o e
    rintro rfl; rw [i.apart _ o e] at ha; cases ha
  · by_cases hb : b = a
    · subst hb; rw [upd_self] at e; cases e
      exact ⟨xs, hl, hs, hr.mono k g⟩
    · rw [upd_ne _ hb] at e
      obtain ⟨ys, ⟨o, n, ho, r⟩, h1, h2⟩ := i.lists b l'' e
      exact ⟨ys, ⟨o, n, by rw [sb.2 b hb]; exact ho, r⟩, h1, h2.mono k g⟩
  · obtain ⟨sl, e'⟩ := (k b o e).2 q
    exact ⟨_, e', rfl⟩
  · rw [upd_ne]; exact i.owned env he L hL
    rintro rfl; rw [i.owned env he _ hL] at ha; cases ha
  · by_cases hb : b = a
    · subst hb; rw [upd_self] at e; cases e
    · rw [upd_ne _ hb] at e
      obtain ⟨o, ho, hd⟩ := i.framed b e
      obtain ⟨sl, e'⟩ := (k b o ho).2 e
      exact ⟨_, e', hd⟩

/-- ownership given up -/
noncomputable def Sub (O' O : MH) : Prop := ∀ a, O' a = none ∨ O' a = O a
theorem Sub.refl (O : MH) : Sub O O := fun _ => .inr rfl
theorem Sub.non {O O' : MH} (x : Sub O' O) {a : Addr} (h : O a = none) : O' a = none := by
  rcases x a with q | q
  · exact q
  · exact q.trans h
mutual
theorem Rep.sub {w : World} {h : Heap} {O O' : MH} (k : Sub O' O) : ∀ (v : V) (x : Value), Rep w h O v x → Rep w h O' v x
  | .none, x, r => r
  | .bool b, x, r => r
  | .int i, x, r => r
  | .str l, x, r => r
  | .tup l, x, r => by
    obtain ⟨a, xs, e, ht, hn, hl, hr⟩ := r
    exact ⟨a, xs, e, ht, k.non hn, hl, Reps.sub k l xs hr⟩
  | .fl l, x, r => by
    obtain ⟨a, xs, e, ht, hn, hl, hr⟩ := r
    exact ⟨a, xs, e, ht, k.non hn, hl, Reps.sub k l xs hr⟩
  | .lst a, x, r => r
  | .dct l, x, r => by
    obtain ⟨a, e, hn, r⟩ := r
    exact ⟨a, e, k.non hn, r⟩
  | .rng lo hi, x, r => by
    obtain ⟨a, t1, t2, t3, e, hn, r⟩ := r
    exact ⟨a, t1, t2, t3, e, k.non hn, r⟩
  | .die line, x, r => by
    obtain ⟨e, dx, hx, hn, hn2, r⟩ := r
    exact ⟨e, dx, hx, k.non hn, k.non hn2, r⟩
  | .undef, x, r => r
theorem Reps.sub {w : World} {h : Heap} {O O' : MH} (k : Sub O' O) : ∀ (l : List V) (xs : List Value), Reps w h O l xs → Reps w h O' l xs
  | [], xs, r => r
  | v :: l, xs, r => by
    obtain ⟨x, r', e, a, b⟩ := r
    exact ⟨x, r', e, Rep.sub k v x a, Reps.sub k l r' b⟩
end
theorem Inv.sub {c : Cx} {O O' : MH} {s : Shared} (i : Inv c O s) (k : Sub O' O) (ho : ∀ env ∈ c.fr, ∀ L, env.frame = some L → O' L = some .frame) : Inv c O' s := by
  refine ⟨i.base, i.stay, fun b o e => k.non (i.apart b o e), fun a l e => ?_, i.frames, ho, fun a e => ?_, i.gens, i.os⟩
  · rcases k a with q | q
    · rw [q] at e; cases e
    · rw [q] at e
      obtain ⟨xs, a, b, r⟩ := i.lists a l e
      exact ⟨xs, a, b, r.sub k⟩
  · rcases k a with q | q
    · rw [q] at e; cases e
    · rw [q] at e; exact i.framed a e
theorem Reps.length {w : World} {h : Heap} {O : MH} : ∀ {l : List V} {xs : List Value}, Reps w h O l xs → l.length = xs.length
  | [], xs, r => by have : xs = [] := r; subst this; rfl
  | v :: l, xs, r => by
    obtain ⟨x, r', e, a, b⟩ := r
    subst e
    simp [Reps.length b]
theorem Reps.get {w : World} {h : Heap} {O : MH} : ∀ {l : List V} {xs : List Value} (_ : Reps w h O l xs) {i : Nat} {v : V}, l[i]? = some v → ∃ x, xs[i]? = some x ∧ Rep w h O v x
  | [], xs, r, i, v, e => by simp at e
  | v :: l, xs, r, 0, v', e => by
    obtain ⟨x, r', e', a, b⟩ := r
    subst e'
    simp at e; subst e
    exact ⟨x, by simp, a⟩
  | v :: l, xs, r, i + 1, v', e => by
    obtain ⟨x, r', e', a, b⟩ := r
    subst e'
    simp at e
    obtain ⟨y, hy, hr⟩ := Reps.get b e
    exact ⟨y, by simpa using hy, hr⟩
theorem Reps.append {w : World} {h : Heap} {O : MH} : ∀ {l l' : List V} {xs ys : List Value}, Reps w h O l xs → Reps w h O l' ys → Reps w h O (l ++ l') (xs ++ ys)
  | [], l', xs, ys, r, r' => by have : xs = [] := r; subst this; exact r'
  | v :: l, l', xs, ys, r, r' => by
    obtain ⟨x, r'', e', a, b⟩ := r
    subst e'
    exact ⟨x, _, rfl, a, Reps.append b r'⟩
theorem Reps.set {w : World} {h : Heap} {O : MH} : ∀ {l : List V} {xs : List Value} (_ : Reps w h O l xs) (i : Nat) {v : V} {x : Value}, Rep w h O v x → Reps w h O (l.set i v) (xs.set i x)
  | [], xs, r, i, v, x, _ => by have : xs = [] := r; subst this; simp; rfl
  | v :: l, xs, r, 0, v', x', q => by
    obtain ⟨x, r'', e', a, b⟩ := r
    subst e'
    exact ⟨x', _, rfl, q, b⟩
  | v :: l, xs, r, i + 1, v', x', q => by
    obtain ⟨x, r'', e', a, b⟩ := r
    subst e'
    exact ⟨x, _, rfl, a, Reps.set b i q⟩
theorem Reps.take {w : World} {h : Heap} {O : MH} : ∀ {l : List V} {xs : List Value} (_ : Reps w h O l xs) (n : Nat), Reps w h O (l.take n) (xs.take n)
  | [], xs, r, n => by have : xs = [] := r; subst this; simp; rfl
  | v :: l, xs, r, 0 => by simp; rfl
  | v :: l, xs, r, n + 1 => by
    obtain ⟨x, r'', e', a, b⟩ := r
    subst e'
    exact ⟨x, _, rfl, a, Reps.take b n⟩
theorem Reps.drop {w : World} {h : Heap} {O : MH} : ∀ {l : List V} {xs : List Value} (_ : Reps w h O l xs) (n : Nat), Reps w h O (l.drop n) (xs.drop n)
  | [], xs, r, n => by have : xs = [] := r; subst this; simp; rfl
  | v :: l, xs, r, 0 => by simpa using r
  | v :: l, xs, r, n + 1 => by
    obtain ⟨x, r'', e', a, b⟩ := r
    subst e'
    simpa using Reps.drop b n
end Mine
end
section
open PySem PySem.W PySem.Calls PyProof.Rows
set_option Elab.async false
namespace Mine
theorem SZ_eq : SZ = 1048576 := rfl
/-- the step gives a value for which K holds, and changes nothing -/
noncomputable def Gv {α : Type} (w : World) (A : Around) (s : Shared) (t : Sem α) (R : Heap → α → Prop) : Prop :=
  ∀ (Q : α → Shared → Prop) (E : Value → Shared → Prop), (∀ x s', Pure s s' → R s'.heap x → Q x s') → wpAny (model pg w) A t Q E s

noncomputable def inStr (y x : List Nat) : Option Bool := match y with
  | [] => some true
  | [c] => some (decide (c ∈ x))
  | _ => none
noncomputable def asL (O : MH) : V → Option (List V)
  | .fl l => some l
  | .lst a => match O a with
    | some (.list l) => some l
    | _ => none
  | _ => none

noncomputable def binP (O : MH) (o : Operator) (a b : V) (K : V → Prop) : Prop := match o, a, b with
  | .Add, .int i, .int j => K (.int (i + j))
  | .Sub, .int i, .int j => K (.int (i - j))
  | .Mult, .int i, .int j => i.natAbs < 2 ^ 32 ∧ j.natAbs < 2 ^ 32 ∧ K (.int (i * j))
  | .Mod, .int i, .int j => 0 < j ∧ K (.int (i % j))
  | .BitXor, .int i, .int j => K (.int (Builtin.bitXor i j))
  | .Add, .str x, .str y => x.length + y.length ≤ SZ ∧ K (.str (x ++ y))
  | .Mult, .str x, .int n => 0 ≤ n ∧ n ≤ 1 ∧ K (.str (if n = 0 then [] else x))
  | .Add, .fl a, b => ∃ y, asL O b = some y ∧ a.length + y.length ≤ SZ ∧ K (.fl (a ++ y))
  | .Add, .lst a, b => ∃ x y, asL O (.lst a) = some x ∧ asL O b = some y ∧ x.length + y.length ≤ SZ ∧ K (.fl (x ++ y))
  | _, _, _ => False

noncomputable def ltL (x y : List Nat) : Bool := decide (x < y)
noncomputable def cmpP (o : CmpOp) (a b : V) (K : Bool → Prop) : Prop := match o, a, b with
  | .Eq, .int i, .int j => K (i == j)
  | .NotEq, .int i, .int j => K (i != j)
  | .Lt, .int i, .int j => K (decide (i < j))
  | .LtE, .int i, .int j => K (decide (i ≤ j))
  | .Gt, .int i, .int j => K (decide (i > j))
  | .GtE, .int i, .int j => K (decide (i ≥ j))
  | .Eq, .str x, .str y => K (x == y)
  | .NotEq, .str x, .str y => K (x != y)
  | .LtE, .str x, .str y => K (!ltL y x)
  | .In, .str y, .str x => ∃ b, inStr y x = some b ∧ K b
  | .In, .str y, .dct l => K (look l y).isSome
  | _, _, _ => False

theorem str_app (x y : List Nat) : (⟨x.toArray⟩ : Str) ++ (⟨y.toArray⟩ : Str) = ⟨(x ++ y).toArray⟩ := by
  show Str.append _ _ = _
  simp [Str.append]
theorem str_len (x : List Nat) : (⟨x.toArray⟩ : Str).length = x.length := by simp [Str.length]
theorem str_inj (x y : List Nat) : ((⟨x.toArray⟩ : Str) == ⟨y.toArray⟩) = (x == y) := by
  rw [← toList_beq]
theorem str_ne (x y : List Nat) : ((⟨x.toArray⟩ : Str) != ⟨y.toArray⟩) = (x != y) := by
  simp only [bne, str_inj]
theorem fmod_eq {a b : Int} (h : 0 < b) : a.fmod b = a % b := by
  rw [Int.fmod_eq_emod_of_nonneg _ (by omega)]
theorem occ_empty (x : Str) : (!(Builtin.Str.occurrences x ⟨#[]⟩ 0 x.length 1).isEmpty) = true := by
  rw [StrLaws.found_iff]
  exact ⟨0, by show 0 + 0 ≤ _; omega, by simp [Builtin.Str.subAt, Str.length]⟩

section
variable {w : World} {A : Around} {O : MH} {s : Shared}

theorem mulOk {i j : Int} (hi : i.natAbs < 2 ^ 32) : IntMulOk i j := .of_left (intBits_le_64 (by omega) (by omega))

theorem Rep.asL {c : Cx} {O : MH} {s : Shared} (i : Inv c O s) {v : V} {x : Value} {l : List V} (r : Rep c.w s.heap O v x) (h : asL O v = some l) :
    ∃ a xs, x = .ref a ∧ s.heap.IsList a (xs : List Value).toArray ∧ l.length ≤ SZ ∧ Reps c.w s.heap O l xs := by
  cases v with
  | fl l' =>
    obtain rfl : l' = l := Option.some.inj h
    obtain ⟨a, xs, e, hl, _, hs, hr⟩ := r
    exact ⟨a, xs, e, hl, hs, hr⟩
  | lst a =>
    unfold Mine.asL at h
    dsimp only at h
    split at h
    · rename_i l' hl
      cases h
      obtain ⟨xs, h1, h2, h3⟩ := i.lists a _ hl
      exact ⟨a, xs, r, h1.isList, h2, h3⟩
    · cases h
  | _ => cases h

theorem size_none (h : Heap) : h.get? h.objs.size = none := by
  cases q : h.get? h.objs.size with
  | none => rfl
  | some o => exact absurd (Heap.lt_size q) (Nat.lt_irrefl _)
theorem add_own {l b : Addr} {vs ws : List Value} {Q : Value → Shared → Prop} {E : Value → Shared → Prop} (hl : s.heap.IsList l vs.toArray) (hb : s.heap.IsList b ws.toArray) (hsz : vs.length + ws.length ≤ sizeLine)
    (h : ∀ h' a, (∀ b o, s.heap.get? b = some o → h'.get? b = some o) → s.heap.get? a = none → h'.IsList a (vs ++ ws).toArray → Q (.ref a) { s with heap := h' }) : wpAny (model pg w) A (binaryOp .Add (.ref l) (.ref b)) Q E s := by
  obtain ⟨⟨_, d1, _, s1⟩, e1, c1, n1, q1⟩ := hl
  obtain ⟨⟨_, d2, _, s2⟩, e2, c2, n2, q2⟩ := hb
  cases c1; cases q1; cases c2; cases q2
  refine concat_meets ⟨_, e1, rfl⟩ ⟨_, e2, rfl⟩ noFill_list_add seq_list_add PySem.F.slot_list_add PySem.F.entry_list_add (PySem.F.args_list_add_2 _ _) (list_addW l b vs.toArray ws.toArray n1 n2 d1 d2 s1 s2 (by simpa using hsz)) ⟨e1, e2, ?_⟩
  exact h _ _ (fun b o e => Heap.get?_push_of_some _ e) (size_none _) ⟨_, Heap.get?_push_size _ rfl, rfl, 0, by simp⟩
theorem bin_ok {c : Cx} (i : Inv c O s) {o : Operator} {a b : V} {x y : Value} {K : V → Prop} (ra : Rep c.w s.heap O a x) (rb : Rep c.w s.heap O b y) (h : binP O o a b K) :
    Gv c.w A s (binaryOp o x y) fun h' r => ∃ v, Rep c.w h' O v r ∧ K v := by
  intro Q E q
  cases o with
  | Add =>
    cases a with
    | int i' =>
      cases b with
      | int j' =>
        obtain ⟨t, rfl⟩ := ra; obtain ⟨u, rfl⟩ := rb
        exact PySem.P.add_int (q _ _ (.toks _ _) ⟨.int _, ⟨_, rfl⟩, h⟩)
      | _ => exact h.elim
    | str x' =>
      cases b with
      | str y' =>
        obtain ⟨hx, t, rfl⟩ := ra; obtain ⟨hy, u, rfl⟩ := rb
        refine PyProof.Rows.add_str (fun t' tk => q _ _ (.toks _ _) ⟨.str (x' ++ y'), ⟨?_, t', ?_⟩, h.2⟩) ?_
        · simpa using h.1
        · rw [str_app]
        · rw [str_len, str_len]; have := h.1; rw [SZ_eq] at this; show _ ≤ 2 ^ 24; omega
      | _ => exact h.elim
    | fl l =>
      obtain ⟨y', hy, hs, hk⟩ := h
      obtain ⟨a1, xs, rfl, h1, _, h3⟩ := ra.asL i (l := l) rfl
      obtain ⟨a2, ys, rfl, g1, _, g3⟩ := rb.asL i hy
      exact add_own h1 g1 (by rw [← h3.length, ← g3.length, SZ_eq] at *; show _ ≤ 2 ^ 24; omega) fun h' a k hn hl => q _ _ (.heap k _) ⟨.fl (l ++ y'), ⟨a, _, rfl, hl, i.fresh hn, by simpa using hs, (h3.append g3).mono (Kept.of_keeps k) (Grow.refl _ _)⟩, hk⟩
    | lst a =>
      obtain ⟨x', y', hx, hy, hs, hk⟩ := h
      obtain ⟨a1, xs, rfl, h1, _, h3⟩ := ra.asL i hx
      obtain ⟨a2, ys, rfl, g1, _, g3⟩ := rb.asL i hy
      exact add_own h1 g1 (by rw [← h3.length, ← g3.length, SZ_eq] at *; show _ ≤ 2 ^ 24; omega) fun h' a k hn hl => q _ _ (.heap k _) ⟨.fl (x' ++ y'), ⟨a, _, rfl, hl, i.fresh hn, by simpa using hs, (h3.append g3).mono (Kept.of_keeps k) (Grow.refl _ _)⟩, hk⟩
    | _ => exact h.elim
  | Sub =>
    cases a with
    | int i' =>
      cases b with
      | int j' =>
        obtain ⟨t, rfl⟩ := ra; obtain ⟨u, rfl⟩ := rb
        exact PySem.P.sub_int (q _ _ (.toks _ _) ⟨.int _, ⟨_, rfl⟩, h⟩)
      | _ => exact h.elim
    | _ => exact h.elim
  | Mod =>
    cases a with
    | int i' =>
      cases b with
      | int j' =>
        obtain ⟨t, rfl⟩ := ra; obtain ⟨u, rfl⟩ := rb
        have h : 0 < j' ∧ K (.int (i' % j')) := h
        refine PyProof.Rows.mod_int (by omega) (q _ _ (.toks _ _) ⟨.int _, ⟨_, rfl⟩, ?_⟩)
        rw [fmod_eq h.1]; exact h.2
      | _ => exact h.elim
    | _ => exact h.elim
  | BitXor =>
    cases a with
    | int i' =>
      cases b with
      | int j' =>
        obtain ⟨t, rfl⟩ := ra; obtain ⟨u, rfl⟩ := rb
        exact PyProof.Rows.xor_int (q _ _ (.toks _ _) ⟨.int _, ⟨_, rfl⟩, h⟩)
      | _ => exact h.elim
    | _ => exact h.elim
  | Mult =>
    cases a with
    | int i' =>
      cases b with
      | int j' =>
        obtain ⟨t, rfl⟩ := ra; obtain ⟨u, rfl⟩ := rb
        exact PySem.P.mul_int (q _ _ (.toks _ _) ⟨.int _, ⟨_, rfl⟩, h.2.2⟩) (mulOk h.1)
      | _ => exact h.elim
    | str x' =>
      cases b with
      | int n =>
        obtain ⟨hx, t, rfl⟩ := ra; obtain ⟨u, rfl⟩ := rb
        obtain ⟨h0, h1, hk⟩ := h
        have hz : n = 0 ∨ n = 1 := by omega
        rcases hz with rfl | rfl
        · exact P.mul_str_none (by decide) (by decide) (q _ _ (.toks _ _) ⟨.str [], ⟨Nat.zero_le _, _, rfl⟩, hk⟩)
        · refine P.mul_str (by decide) (fun _ e => by cases e) (fun _ e => by cases e) ?_
          rw [if_neg (by decide), if_pos (by rfl)]
          exact q _ _ (.refl _) ⟨.str x', ⟨hx, _, rfl⟩, hk⟩
      | _ => exact h.elim
    | _ => exact h.elim
  | _ => exact h.elim

theorem cmp_ok {op : CmpOp} {a b : V} {x y : Value} {K : Bool → Prop} (ra : Rep w s.heap O a x) (rb : Rep w s.heap O b y) (h : cmpP op a b K) :
    Gv w A s (compareOp op x y) fun _ r => ∃ b, r = .bool b ∧ K b := by
  intro Q E q
  cases op with
  | Eq =>
    cases a with
    | int i' =>
      cases b with
      | int j' =>
        obtain ⟨t, rfl⟩ := ra; obtain ⟨u, rfl⟩ := rb
        exact PySem.P.eq_int (q _ _ (.refl _) ⟨_, rfl, h⟩)
      | _ => exact h.elim
    | str x' =>
      cases b with
      | str y' =>
        obtain ⟨_, t, rfl⟩ := ra; obtain ⟨_, u, rfl⟩ := rb
        refine PyProof.Rows.eq_str (q _ _ (.refl _) ⟨_, rfl, ?_⟩)
        rw [str_inj]; exact h
      | _ => exact h.elim
    | _ => exact h.elim
  | NotEq =>
    cases a with
    | int i' =>
      cases b with
      | int j' =>
        obtain ⟨t, rfl⟩ := ra; obtain ⟨u, rfl⟩ := rb
        exact PySem.P.ne_int (q _ _ (.refl _) ⟨_, rfl, h⟩)
      | _ => exact h.elim
    | str x' =>
      cases b with
      | str y' =>
        obtain ⟨_, t, rfl⟩ := ra; obtain ⟨_, u, rfl⟩ := rb
        refine PyProof.Rows.ne_str (q _ _ (.refl _) ⟨_, rfl, ?_⟩)
        rw [str_ne]; exact h
      | _ => exact h.elim
    | _ => exact h.elim
  | Lt =>
    cases a with
    | int i' =>
      cases b with
      | int j' =>
        obtain ⟨t, rfl⟩ := ra; obtain ⟨u, rfl⟩ := rb
        exact PySem.P.lt_int (q _ _ (.refl _) ⟨_, rfl, h⟩)
      | _ => exact h.elim
    | _ => exact h.elim
  | LtE =>
    cases a with
    | int i' =>
      cases b with
      | int j' =>
        obtain ⟨t, rfl⟩ := ra; obtain ⟨u, rfl⟩ := rb
        exact PySem.P.le_int (q _ _ (.refl _) ⟨_, rfl, h⟩)
      | _ => exact h.elim
    | str x' =>
      cases b with
      | str y' =>
        obtain ⟨_, t, rfl⟩ := ra; obtain ⟨_, u, rfl⟩ := rb
        exact PySem.P.le_str (q _ _ (.refl _) ⟨_, rfl, h⟩)
      | _ => exact h.elim
    | _ => exact h.elim
  | Gt =>
    cases a with
    | int i' =>
      cases b with
      | int j' =>
        obtain ⟨t, rfl⟩ := ra; obtain ⟨u, rfl⟩ := rb
        exact PySem.P.gt_int (q _ _ (.refl _) ⟨_, rfl, h⟩)
      | _ => exact h.elim
    | _ => exact h.elim
  | GtE =>
    cases a with
    | int i' =>
      cases b with
      | int j' =>
        obtain ⟨t, rfl⟩ := ra; obtain ⟨u, rfl⟩ := rb
        exact PySem.P.ge_int (q _ _ (.refl _) ⟨_, rfl, h⟩)
      | _ => exact h.elim
    | _ => exact h.elim
  | In =>
    cases a with
    | str y' =>
      cases b with
      | str x' =>
        obtain ⟨_, t, rfl⟩ := ra; obtain ⟨_, u, rfl⟩ := rb
        obtain ⟨b, hb, hk⟩ := h
        refine PyProof.Rows.in_str (q _ _ (.refl _) ⟨_, rfl, ?_⟩)
        match y', hb with
        | [], hb => cases hb; rw [show ([] : List Nat).toArray = #[] from rfl, occ_empty]; exact hk
        | [ch], hb => cases hb; rw [show [ch].toArray = #[ch] from rfl, StrLaws.found_one]; simpa using hk
      | dct l =>
        obtain ⟨_, t, rfl⟩ := ra
        obtain ⟨a, rfl, _, hs, f, hm, hf⟩ := rb
        refine wpAny_in_of (k := ⟨y'.toArray⟩) (strKind_is pg w _ t) hs hm (q _ _ (.toks _ _) ⟨_, rfl, ?_⟩)
        have h : K (look l y').isSome := h
        have := hf y'
        cases hl : look l y' with
        | none => rw [hl] at this h; rw [this]; exact h
        | some v => rw [hl] at this h; obtain ⟨_, t', e⟩ := this; rw [e]; exact h
      | _ => exact h.elim
    | _ => exact h.elim
  | _ => exact h.elim
end
end Mine
end
section
open PySem PySem.W PySem.Calls PyProof.Rows
set_option Elab.async false
namespace Mine
theorem cut_pure (x : List Nat) (a b : Nat) : (x.drop (min a x.length)).take (min b x.length - min a x.length) = (x.take b).drop a := by
  apply List.ext_getElem?
  intro k
  simp only [List.getElem?_take, List.getElem?_drop]
  split <;> split
  · by_cases h : a ≤ x.length
    · rw [Nat.min_eq_left h]
    · omega
  · omega
  · by_cases h : a ≤ x.length
    · rw [List.getElem?_eq_none]; omega
    · rw [List.getElem?_eq_none]; omega
  · rfl
noncomputable def nhi (hi : Option Int) (n : Nat) : Nat := match hi with | some j => j.toNat | none => n
noncomputable def nlo (lo : Option Int) : Nat := match lo with | some i => i.toNat | none => 0
noncomputable def cutL {α : Type} (x : List α) (lo hi : Option Int) : List α := (match hi with | some j => x.take j.toNat | none => x).drop (nlo lo)
theorem cutL_len {α : Type} (x : List α) (lo hi : Option Int) : (cutL x lo hi).length ≤ x.length := by
  unfold cutL; cases hi <;> simp <;> omega
noncomputable def nonneg (p : Option Int) : Prop := ∀ i, p = some i → 0 ≤ i
open Builtin.Str in
theorem slice_pure (x : List Nat) (lo hi : Option Int) (h0 : nonneg lo) (h1 : nonneg hi) :
    Txt.slice ⟨x.toArray⟩ lo hi = ⟨(cutL x lo hi).toArray⟩ := by
  have key : (strSliceIndices lo hi 1 x.length).filterMap (x.toArray[·]?) = cutL x lo hi ∧ (cutL x lo hi).length = (strSliceIndices lo hi 1 x.length).length := by
    have e : strSliceIndices lo hi 1 x.length = sliceRange ((min (nlo lo) x.length : Nat) : Int) ((min (nhi hi x.length) x.length : Nat) : Int) 1 := by
      unfold strSliceIndices nlo nhi
      cases lo <;> cases hi <;> simp only [show (1 : Int) > 0 by decide, if_true]
      · simp
      · rename_i j
        have := h1 j rfl
        rw [if_neg (by omega)]
        congr 1 <;> omega
      · rename_i i
        have := h0 i rfl
        rw [if_neg (by omega)]
        congr 1 <;> omega
      · rename_i i j
        have := h0 i rfl
        have := h1 j rfl
        rw [if_neg (by omega), if_neg (by omega)]
        congr 1 <;> omega
    have c : List.take (min (nhi hi x.length) x.length - min (nlo lo) x.length) (List.drop (min (nlo lo) x.length) x) = cutL x lo hi := by
      rw [cut_pure]
      unfold cutL nhi
      cases hi with
      | none => simp
      | some j => rfl
    rw [e, sliceRange_one, pick_run]
    refine ⟨c, ?_⟩
    rw [← c]
    simp
    omega
  obtain ⟨key, klen⟩ := key
  have hl : (⟨x.toArray⟩ : Str).length = x.length := by simp [Str.length]
  unfold Txt.slice
  rw [hl]
  split
  · rename_i hc
    have hn : (strSliceIndices lo hi 1 x.length).length = x.length := by simpa using hc
    have hle : (cutL x lo hi).length = x.length := klen.trans hn
    have : cutL x lo hi = x := by
      unfold cutL at hle ⊢
      cases hi with
      | none =>
        simp only [List.length_drop] at hle ⊢
        by_cases h : nlo lo = 0
        · rw [h]; rfl
        · have : x = [] := List.eq_nil_of_length_eq_zero (by omega)
          subst this; simp
      | some j =>
        simp only [List.length_drop, List.length_take] at hle ⊢
        rw [List.take_of_length_le (by omega)]
        by_cases h : nlo lo = 0
        · rw [h]; rfl
        · have : x = [] := List.eq_nil_of_length_eq_zero (by omega)
          subst this; simp
    rw [this]
  · show (⟨List.toArray _⟩ : Str) = _
    rw [key]

noncomputable def at? {α : Type} (l : List α) (k : Int) : Option α := if 0 ≤ k then l[k.toNat]? else if -(l.length : Int) ≤ k then l[(k + l.length).toNat]? else none
noncomputable def subP (O : MH) (a i : V) (K : V → Prop) : Prop := match a, i with
  | .str x, .int k => 0 ≤ k ∧ ∃ c, x[k.toNat]? = some c ∧ K (.str [c])
  | .tup l, .int k => 0 ≤ k ∧ ∃ v, l[k.toNat]? = some v ∧ K v
  | .fl l, .int k => ∃ v, at? l k = some v ∧ K v
  | .lst a, .int k => ∃ l v, O a = some (.list l) ∧ at? l k = some v ∧ K v
  | .dct l, .str x => ∃ v, look l x = some v ∧ K (.str v)
  | _, _ => False
noncomputable def slP (a : V) (lo hi : Option Int) (K : V → Prop) : Prop := nonneg lo ∧ nonneg hi ∧ match a with
  | .str x => K (.str (cutL x lo hi))
  | .fl l => lo = none ∧ hi ≠ none ∧ K (.fl (cutL l lo hi))
  | _ => False

theorem size_line {n : Nat} (h : n ≤ SZ) : n ≤ sizeLine := by rw [SZ_eq] at h; show _ ≤ 2 ^ 24; omega
theorem lt_of_get {α : Type} {l : List α} {i : Nat} {v : α} (h : l[i]? = some v) : i < l.length := (List.getElem?_eq_some_iff.mp h).1

section
variable {A : Around} {O : MH} {s : Shared}
theorem list_at {E : Value → Shared → Prop} {Q : Value → Shared → Prop} {a : Addr} {xs : List Value} {k : Int} {t : Tok} {x : Value} (hl : s.heap.IsList a xs.toArray) (hs : xs.length ≤ SZ) (hx : at? xs k = some x) (h : Q x s) :
    wpAny (model pg w) A (getItem (.ref a) (.int k t)) Q E s := by
  unfold at? at hx
  rw [SZ_eq] at hs
  split at hx
  · have := lt_of_get hx
    exact wpAny_getItem_list hl (by omega) (by omega) (by simpa using hx) h
  · split at hx
    · exact wpAny_getItem_list_neg hl (by omega) (by simpa using by omega) (by omega) (by simpa using hx) h
    · cases hx
theorem Reps.at? {w : World} {h : Heap} {l : List V} {xs : List Value} (r : Reps w h O l xs) {k : Int} {v : V} (e : Mine.at? l k = some v) : ∃ x, Mine.at? xs k = some x ∧ Rep w h O v x := by
  unfold Mine.at? at e ⊢
  rw [← r.length]
  split at e
  · rename_i h0; rw [if_pos h0]; exact r.get e
  · rename_i h0; rw [if_neg h0]
    split at e
    · rename_i h1; rw [if_pos h1]; exact r.get e
    · cases e

theorem seqIndex_nat {k : Int} {n : Nat} (h0 : 0 ≤ k) (h : k.toNat < n) : seqIndex? k n = some k.toNat := by
  unfold seqIndex?
  simp only [if_neg (show ¬ k < 0 by omega)]
  rw [if_pos (by simp; omega)]
theorem sub_ok {c : Cx} (i : Inv c O s) {a k : V} {x y : Value} {K : V → Prop} {value slice : Expr} (hs : ∀ o v, subscripted slice false o v = operate [o, v] (getItem o v))
    (ra : Rep c.w s.heap O a x) (rk : Rep c.w s.heap O k y) (h : subP O a k K) :
    Gv c.w A s (subscriptTail value slice x y) fun h' r => ∃ v, Rep c.w h' O v r ∧ K v := by
  intro Q E q
  cases a with
  | str x' =>
    cases k with
    | int k' =>
      obtain ⟨hx, t, rfl⟩ := ra; obtain ⟨u, rfl⟩ := rk
      obtain ⟨h0, ch, hc, hk⟩ := h
      have hlt := lt_of_get hc
      rw [SZ_eq] at hx
      refine tail_any (typeIs_str s _ t) PySem.F.slot_str_getitem.lookup (PyProof.Rows.getItem_str (c := ch) ?_ ?_ (q _ _ (.toks _ _) ⟨.str [ch], ⟨by rw [SZ_eq]; simp, _, rfl⟩, hk⟩)) (hs _ _)
      · rw [decide_eq_false (by omega), decide_eq_false (by omega)]; rfl
      · rw [str_len]
        rw [seqIndex_nat h0 hlt]; simpa using hc
    | _ => exact h.elim
  | tup l =>
    cases k with
    | int k' =>
      obtain ⟨a, xs, rfl, ht, hO, hl, hr⟩ := ra; obtain ⟨u, rfl⟩ := rk
      obtain ⟨h0, v, hv, hk⟩ := h
      obtain ⟨z, hz, hrz⟩ := hr.get hv
      have hlt := lt_of_get hv
      rw [SZ_eq] at hl
      have e := hr.length
      exact tail_any ht.typeIs slot_tuple_getitem.lookup (getItem_tuple ht (by omega) (by omega) (by rw [List.size_toArray]; exact seqIndex_nat h0 (by omega)) (by simpa using hz) (q _ _ (.refl _) ⟨v, hrz, hk⟩)) (hs _ _)
    | _ => exact h.elim
  | fl l =>
    cases k with
    | int k' =>
      obtain ⟨a, xs, rfl, ht, hO, hl, hr⟩ := ra; obtain ⟨u, rfl⟩ := rk
      obtain ⟨v, hv, hk⟩ := h
      obtain ⟨z, hz, hrz⟩ := hr.at? hv
      exact tail_any ht.typeIs slot_list_getitem.lookup (list_at ht (by rw [← hr.length]; exact hl) hz (q _ _ (.refl _) ⟨v, hrz, hk⟩)) (hs _ _)
    | _ => exact h.elim
  | lst a =>
    cases k with
    | int k' =>
      obtain ⟨u, rfl⟩ := rk
      obtain ⟨l, v, hO, hv, hk⟩ := h
      obtain ⟨xs, ht', hl, hr⟩ := i.lists _ _ hO
      have ht := ht'.isList
      obtain ⟨z, hz, hrz⟩ := hr.at? hv
      obtain rfl : x = .ref a := ra
      exact tail_any ht.typeIs slot_list_getitem.lookup (list_at ht (by rw [← hr.length]; exact hl) hz (q _ _ (.refl _) ⟨v, hrz, hk⟩)) (hs _ _)
    | _ => exact h.elim
  | dct l =>
    cases k with
    | str k' =>
      obtain ⟨_, t, rfl⟩ := rk
      obtain ⟨a, rfl, hO, hsys, f, hm, hf⟩ := ra
      obtain ⟨v, hv, hk⟩ := h
      have := hf k'
      rw [hv] at this
      obtain ⟨hsz, t', e⟩ := this
      exact tail_any hm.typeIs slot_dict_getitem.lookup (wpAny_getItem_of (k := ⟨k'.toArray⟩) (strKind_is pg c.w _ t) hm e (q _ _ (.toks _ _) ⟨.str v, ⟨hsz, _, rfl⟩, hk⟩)) (hs _ _)
    | _ => exact h.elim
  | _ => exact h.elim
end
end Mine
end
section
open PySem PySem.W PySem.Calls PyProof.Rows
set_option Elab.async false
namespace Mine
theorem Kept.at {O : MH} {h h' : Heap} (k : ∀ b o, h.get? b = some o → h'.get? b = some o) : Kept O h h' := .of_keeps k
noncomputable abbrev sliceObj (l u : Value) : Obj := { cls := .type "slice", data := .fields #[l, u, .none] }
noncomputable def partOf (p : Option (Int × Tok)) : Value := match p with
  | none => .none
  | some (i, t) => .int i t
section
variable {A : Around} {O : MH} {s : Shared}
theorem sl_ok {c : Cx} (i : Inv c O s) {a : V} {x : Value} {K : V → Prop} {value slice : Expr} (lo hi : Option (Int × Tok)) (hs : ∀ o v, subscripted slice false o v = operate [v, o] (getItem o v))
    (ra : Rep c.w s.heap O a x) (h : slP a (lo.map (·.1)) (hi.map (·.1)) K) :
    ∀ Q E, (∀ r s' v, Pure s s' → Rep c.w s'.heap O v r → K v → Q r s') →
      wpAny (model pg c.w) A (subscriptTail value slice x (.ref s.heap.objs.size)) Q E { s with heap := s.heap.push (sliceObj (partOf lo) (partOf hi)) } := by
  intro Q E q
  obtain ⟨h0, h1, h⟩ := h
  split at h
  · rename_i x'
    obtain ⟨hx, t, rfl⟩ := ra
    have kp : KeptH fun h' => ∀ b o, s.heap.get? b = some o → h'.get? b = some o := fun h' ob k b o e => Heap.get?_push_of_some ob (k b o e)
    have fin : ∀ h' t' k, (∀ b o, s.heap.get? b = some o → h'.get? b = some o) → Q (.str (Txt.slice ⟨x'.toArray⟩ (lo.map (·.1)) (hi.map (·.1))) t') { s with heap := h', toks := k } := fun h' t' k hk => by
      rw [slice_pure x' _ _ h0 h1]
      exact q _ _ (.str (cutL x' (lo.map (·.1)) (hi.map (·.1)))) (.heap hk k) ⟨Nat.le_trans (cutL_len _ _ _) hx, _, rfl⟩ h
    have hz : (⟨x'.toArray⟩ : Str).length ≤ sizeLine := by rw [str_len]; exact size_line hx
    have it : ItemOn (model pg c.w) A E (.str ⟨x'.toArray⟩ t) (.ref s.heap.objs.size) Q { s with heap := s.heap.push (sliceObj (partOf lo) (partOf hi)) } := by
      cases lo with
      | none => cases hi with
        | none => exact SBH.sliceItem_nn kp (fun _ _ e => e) fin hz
        | some j => exact SBH.sliceItem_ns (uj := j.2) kp (fun _ _ e => e) fin hz
      | some i => cases hi with
        | none => exact SBH.sliceItem_sn (ui := i.2) kp (fun _ _ e => e) fin hz
        | some j => exact SBH.sliceItem_ss (ui := i.2) (uj := j.2) kp (fun _ _ e => e) fin hz
    obtain ⟨T, id, hl, hT, hg⟩ := it
    exact tail_any hT hl hg (hs _ _)
  · rename_i l
    obtain ⟨ad, xs, rfl, hl, hO, hsz, hr⟩ := ra
    obtain ⟨hlo, hhi, hk⟩ := h
    obtain rfl : lo = none := by cases lo with | none => rfl | some p => cases hlo
    cases hi with
    | none => exact absurd rfl hhi
    | some j =>
      obtain ⟨j, u⟩ := j
      have hj := h1 j rfl
      have hl' := hl
      obtain ⟨o, ho, hc, n, hd⟩ := hl
      refine tail_any (T := "list") ⟨o, Heap.get?_push_of_some _ ho, hc⟩ slot_list_getitem.lookup (wpAny_getItem_list_slice (lo := none) (hi := some j) (st := none) ⟨o, Heap.get?_push_of_some _ ho, hc, n, hd⟩ (Heap.IsSliceOf.new ..) .none (.int j u) .none (by simp) ?_ (by rw [List.size_toArray, ← hr.length]; exact size_line hsz)) (hs _ _)
      have e : slicePick xs.toArray none (some j) none = (xs.take j.toNat).toArray := by
        obtain ⟨b, rfl⟩ := Int.eq_ofNat_of_zero_le hj
        rw [slicePick_upto']; rfl
      rw [e]
      have kk : ∀ b o, s.heap.get? b = some o → ((s.heap.push (sliceObj .none (.int j u))).push { cls := .type "list", data := .seq (xs.take j.toNat).toArray }).get? b = some o := fun b o e => Heap.get?_push_of_some _ (Heap.get?_push_of_some _ e)
      refine q _ _ (.fl (l.take j.toNat)) (.heap kk _) ⟨_, _, rfl, ⟨_, Heap.get?_push_size _ rfl, rfl, 0, rfl⟩, ?_, ?_, (hr.take j.toNat).mono (.of_keeps kk) (Grow.refl _ _)⟩ hk
      · refine i.fresh ?_
        rw [Heap.size_push]
        cases q : s.heap.get? (s.heap.objs.size + 1) with
        | none => rfl
        | some o => exact absurd (Heap.lt_size q) (Nat.not_lt.mpr (Nat.le_succ _))
      · show (l.take j.toNat).length ≤ SZ
        rw [List.length_take]; exact Nat.le_trans (Nat.min_le_right _ _) hsz
  · exact h.elim

noncomputable def cnt (x y : List Nat) : Int := Txt.count ⟨x.toArray⟩ ⟨y.toArray⟩
noncomputable def fnd (x y : List Nat) : Int := Txt.find ⟨x.toArray⟩ ⟨y.toArray⟩
noncomputable def fnd3 (x y : List Nat) (i : Int) : Int := Txt.find3 ⟨x.toArray⟩ ⟨y.toArray⟩ i
noncomputable def lstripL (x y : List Nat) : List Nat := (Txt.lstripChars ⟨x.toArray⟩ ⟨y.toArray⟩).cps.toList
noncomputable def stripL (x y : List Nat) : List Nat := (Txt.stripChars ⟨x.toArray⟩ ⟨y.toArray⟩).cps.toList
noncomputable def lowC (c : Nat) : Nat := if 65 ≤ c ∧ c ≤ 90 then c + 32 else c
inductive Mt | count | find | lower | lstrip | strip | append | pop | get
noncomputable def Mt.name : Mt → Str
  | .count => "count" | .find => "find" | .lower => "lower" | .lstrip => "lstrip" | .strip => "strip" | .append => "append" | .pop => "pop" | .get => "get"

noncomputable def mId (m : Mt) (o : V) : Option (String × String) := match m, o with
  | .count, .str _ => some ("str", "str.count")
  | .find, .str _ => some ("str", "str.find")
  | .lower, .str _ => some ("str", "str.lower")
  | .lstrip, .str _ => some ("str", "str.lstrip")
  | .strip, .str _ => some ("str", "str.strip")
  | .append, .lst _ => some ("list", "list.append")
  | .pop, .lst _ => some ("list", "list.pop")
  | .get, .dct _ => some ("dict", "dict.get")
  | _, _ => none
noncomputable def mOk (O : MH) (m : Mt) (o : V) : Prop := (mId m o).isSome = true ∧ match o with
  | .lst a => ∃ l, O a = some (.list l)
  | _ => True
noncomputable def methP (O : MH) (m : Mt) (o : V) (vs : List V) (K : V → MH → Prop) : Prop := match m, o, vs with
  | .count, .str x, [.str y] => K (.int (cnt x y)) O
  | .find, .str x, [.str y] => K (.int (fnd x y)) O
  | .find, .str x, [.str y, .int i] => K (.int (fnd3 x y i)) O
  | .lower, .str [c], [] => c < 128 ∧ K (.str [lowC c]) O
  | .lstrip, .str x, [.str y] => K (.str (lstripL x y)) O
  | .strip, .str x, [.str y] => K (.str (stripL x y)) O
  | .append, .lst a, [v] => ∃ l, O a = some (.list l) ∧ l.length < SZ ∧ K .none (upd O a (.list (l ++ [v])))
  | .pop, .lst a, [] => ∃ l v, O a = some (.list (l ++ [v])) ∧ K v (upd O a (.list l))
  | .get, .dct l, [.str k, .str d] => K (.str ((look l k).getD d)) O
  | _, _, _ => False

theorem PlainL.of_update {h : Heap} {a : Addr} {o : Obj} {n : Nat} {xs ys : Array Value} {f : Array Value → Array Value} (ho : h.get? a = some o) (hc : o.cls = .type "list") (hn : o.dict = none) (hd : o.data = .seq xs n)
    (e : f xs = ys) : PlainL (h.update a (Obj.mapSeq f)) a ys := by
  subst e
  obtain ⟨n', hd'⟩ := Obj.data_mapSeq hd f
  refine ⟨_, n', Heap.get?_update_self _ ho (Obj.isFreed_of_seq hd'), (Obj.cls_mapSeq ..).trans hc, ?_, hd'⟩
  obtain ⟨c, d, dt, sl⟩ := o
  subst hd
  exact hn

theorem pop_meets (l : Addr) (items : Array Value) (n : Nat) (dd : Option Addr) (sl : Array (Option Value)) (y : Value) (hy : items[items.size - 1]? = some y) (hs1 : items.size ≤ sizeLine) :
    Meets (Builtin.«list.pop» ⟨[.ref l], []⟩)
      (fun _ R s => s.heap.get? l = some { cls := .type "list", dict := dd, data := .seq items n, slots := sl } ∧ R (.ok (.ret y)) { s with heap := s.heap.update l (Obj.mapSeq fun xs => xs.eraseIdxIfInBounds (items.size - 1)) }) :=
  .of_wp fun prog w A R s h => by
    obtain ⟨hp, g, d, tk, os⟩ := s
    obtain ⟨hl, h⟩ := h
    have h1 : items.size ≠ 0 := fun e => by simp [e] at hy
    have hk : seqIndex? (-1) items.size = some (items.size - 1) := by
      unfold seqIndex?
      simp only [if_pos (show (-1 : Int) < 0 by decide)]
      rw [if_pos (by simp; omega)]
      congr 1; omega
    have h2 : ¬ items.isEmpty = true := by simpa using fun e => h1 (by simp [e])
    wp_walk using wpAny_loadPart' hl
    simp only [hk, hy, Option.bind_some, Option.map_some]
    have hz : (items.eraseIdxIfInBounds (items.size - 1)).size ≤ sizeLine + 1 := by
      unfold Array.eraseIdxIfInBounds
      split
      · simp; omega
      · omega
    wp_walk using (wpAny_updateSeq hl rfl (hz := hs1) (_hz' := hz)), wpAny_loadPart' hl
    exact ⟨_, rfl, h⟩

theorem lower_ascii : ∀ c, c < 128 → Txt.lower ⟨#[c]⟩ = ⟨#[lowC c]⟩ := by decide +kernel
theorem strip_len (g : Nat → Bool) (l r : Bool) (x : Str) : (Txt.stripBy g l r x).cps.size ≤ x.cps.size := len_stripBy g l r x

theorem mOk_ok {c : Cx} (i : Inv c O s) {m : Mt} {o : V} {x : Value} (ro : Rep c.w s.heap O o x) (h : mOk O m o) :
    ∃ T id, mId m o = some (T, id) ∧ PlainAttrs T ∧ Slot T m.name id ∧ typeOf (.builtin id) = pure (.type "method_descriptor") ∧ s.TypeIs x T ∧ (∀ a, x = .ref a → ∃ ob, s.heap.get? a = some ob ∧ ob.dict = none) := by
  obtain ⟨h, h'⟩ := h
  cases m with
  | count =>
    cases o with
    | str o' =>
      obtain ⟨_, t, rfl⟩ := ro; exact ⟨_, _, rfl, PySem.F.plainAttrs_str, PySem.F.slot_str_count, PySem.F.type_str_count, typeIs_str _ _ _, fun _ e => nomatch e⟩
    | _ => exact absurd h Bool.false_ne_true
  | find =>
    cases o with
    | str o' =>
      obtain ⟨_, t, rfl⟩ := ro; exact ⟨_, _, rfl, PySem.F.plainAttrs_str, PySem.F.slot_str_find, PySem.F.type_str_find, typeIs_str _ _ _, fun _ e => nomatch e⟩
    | _ => exact absurd h Bool.false_ne_true
  | lower =>
    cases o with
    | str o' =>
      obtain ⟨_, t, rfl⟩ := ro; exact ⟨_, _, rfl, PySem.F.plainAttrs_str, PySem.F.slot_str_lower, PySem.F.type_str_lower, typeIs_str _ _ _, fun _ e => nomatch e⟩
    | _ => exact absurd h Bool.false_ne_true
  | lstrip =>
    cases o with
    | str o' =>
      obtain ⟨_, t, rfl⟩ := ro; exact ⟨_, _, rfl, PySem.F.plainAttrs_str, PySem.F.slot_str_lstrip, PySem.F.type_str_lstrip, typeIs_str _ _ _, fun _ e => nomatch e⟩
    | _ => exact absurd h Bool.false_ne_true
  | strip =>
    cases o with
    | str o' =>
      obtain ⟨_, t, rfl⟩ := ro; exact ⟨_, _, rfl, PySem.F.plainAttrs_str, PySem.F.slot_str_strip, PySem.F.type_str_strip, typeIs_str _ _ _, fun _ e => nomatch e⟩
    | _ => exact absurd h Bool.false_ne_true
  | append =>
    cases o with
    | lst o' =>
      obtain ⟨l, hl⟩ := h'
      obtain ⟨xs, hp, _⟩ := i.lists _ _ hl
      obtain rfl : x = .ref _ := ro
      obtain ⟨ob, n, h1, h2, h3, h4⟩ := hp
      exact ⟨_, _, rfl, PySem.F.plainAttrs_list, PySem.F.slot_list_append, PySem.F.type_list_append, ⟨ob, h1, h2⟩, fun a e => by cases e; exact ⟨ob, h1, h3⟩⟩
    | _ => exact absurd h Bool.false_ne_true
  | pop =>
    cases o with
    | lst o' =>
      obtain ⟨l, hl⟩ := h'
      obtain ⟨xs, hp, _⟩ := i.lists _ _ hl
      obtain rfl : x = .ref _ := ro
      obtain ⟨ob, n, h1, h2, h3, h4⟩ := hp
      exact ⟨_, _, rfl, PySem.F.plainAttrs_list, PySem.F.slot_list_pop, PySem.F.type_list_pop, ⟨ob, h1, h2⟩, fun a e => by cases e; exact ⟨ob, h1, h3⟩⟩
    | _ => exact absurd h Bool.false_ne_true
  | get =>
    cases o with
    | dct o' =>
      obtain ⟨a, rfl, _, _, f, hm, _⟩ := ro
      exact ⟨_, _, rfl, PySem.F.plainAttrs_dict, PySem.F.slot_dict_get, PySem.F.type_dict_get, hm.typeIs, hm.noDict⟩
    | _ => exact absurd h Bool.false_ne_true

theorem meth_ok {c : Cx} (i : Inv c O s) {m : Mt} {o : V} {vs : List V} {x : Value} {xs : List Value} {T id : String} {K : V → MH → Prop} (ro : Rep c.w s.heap O o x) (rv : Reps c.w s.heap O vs xs)
    (hid : mId m o = some (T, id)) (h : methP O m o vs K) :
    ∀ Q E, (∀ r s' v O', Next c s O s' O' → Rep c.w s'.heap O' v r → K v O' → Q r s') → wpAny (model pg c.w) A (call (.builtin id) (x :: xs)) Q E s := by
  intro Q E q
  cases m with
  | count =>
    cases o with
    | str x' =>
      rcases vs with _ | ⟨v1, _ | ⟨v2, vs⟩⟩
      · exact h.elim
      · cases v1 with
        | str y' =>
          obtain ⟨_, t, rfl⟩ := ro
          obtain ⟨_, _, rfl, ⟨_, u, rfl⟩, e⟩ := rv; cases e; cases hid
          exact SC.count (q _ _ (.int _) _ (i.pure (.toks _ _)) ⟨_, rfl⟩ h)
        | _ => exact h.elim
      · exact (by cases v1 <;> exact h : False).elim
    | _ => exact h.elim
  | find =>
    cases o with
    | str x' =>
      rcases vs with _ | ⟨v1, _ | ⟨v2, _ | ⟨v3, vs⟩⟩⟩
      · exact h.elim
      · cases v1 with
        | str y' =>
          obtain ⟨_, t, rfl⟩ := ro
          obtain ⟨_, _, rfl, ⟨_, u, rfl⟩, e⟩ := rv; cases e; cases hid
          exact SC.find (q _ _ (.int _) _ (i.pure (.toks _ _)) ⟨_, rfl⟩ h)
        | _ => exact h.elim
      · cases v1 with
        | str y' =>
          cases v2 with
          | int i' =>
            obtain ⟨_, t, rfl⟩ := ro
            obtain ⟨_, _, rfl, ⟨_, u, rfl⟩, _, _, rfl, ⟨v, rfl⟩, e⟩ := rv; cases e; cases hid
            exact SC.find3 (q _ _ (.int _) _ (i.pure (.toks _ _)) ⟨_, rfl⟩ h)
          | _ => exact h.elim
        | _ => exact h.elim
      · exact (by cases v1 <;> first | exact h | (cases v2 <;> exact h) : False).elim
    | _ => exact h.elim
  | lower =>
    cases o with
    | str x' =>
      rcases x' with _ | ⟨ch, _ | ⟨c2, x'⟩⟩
      · exact h.elim
      · cases vs with
        | nil =>
          obtain ⟨_, t, rfl⟩ := ro
          cases rv; cases hid
          have e := lower_ascii ch h.1
          refine SC.lower (by show Builtin.Str.tooLong (Txt.lower ⟨#[ch]⟩).length = false; rw [e]; rfl) ?_
          show Q (.str (Txt.lower ⟨#[ch]⟩) _) _
          rw [e]
          exact q _ _ (.str [lowC ch]) _ (i.pure (.toks _ _)) ⟨by rw [SZ_eq]; simp, _, rfl⟩ h.2
        | cons _ _ => exact h.elim
      · exact h.elim
    | _ => exact h.elim
  | lstrip =>
    cases o with
    | str x' =>
      rcases vs with _ | ⟨v1, _ | ⟨v2, vs⟩⟩
      · exact h.elim
      · cases v1 with
        | str y' =>
          obtain ⟨hx, t, rfl⟩ := ro
          obtain ⟨_, _, rfl, ⟨_, u, rfl⟩, e⟩ := rv; cases e; cases hid
          refine SC.lstripChars (fun t' k => q _ _ (.str (lstripL x' y')) _ (i.pure (.toks _ _)) ⟨?_, t', ?_⟩ h) (by rw [str_len]; exact size_line hx)
          · have := strip_len (fun c => y'.toArray.contains c) true false ⟨x'.toArray⟩
            refine Nat.le_trans ?_ hx
            unfold lstripL; rw [Array.length_toList]; exact Nat.le_trans this (by simp)
          · unfold lstripL; rfl
        | _ => exact h.elim
      · exact (by cases v1 <;> exact h : False).elim
    | _ => exact h.elim
  | strip =>
    cases o with
    | str x' =>
      rcases vs with _ | ⟨v1, _ | ⟨v2, vs⟩⟩
      · exact h.elim
      · cases v1 with
        | str y' =>
          obtain ⟨hx, t, rfl⟩ := ro
          obtain ⟨_, _, rfl, ⟨_, u, rfl⟩, e⟩ := rv; cases e; cases hid
          refine SC.stripChars (fun t' k => q _ _ (.str (stripL x' y')) _ (i.pure (.toks _ _)) ⟨?_, t', ?_⟩ h) (by rw [str_len]; exact size_line hx)
          · have := strip_len (fun c => y'.toArray.contains c) true true ⟨x'.toArray⟩
            refine Nat.le_trans ?_ hx
            unfold stripL; rw [Array.length_toList]; exact Nat.le_trans this (by simp)
          · unfold stripL; rfl
        | _ => exact h.elim
      · exact (by cases v1 <;> exact h : False).elim
    | _ => exact h.elim
  | append =>
    cases o with
    | lst a =>
      rcases vs with _ | ⟨v, _ | ⟨v2, vs⟩⟩
      · exact h.elim
      · obtain rfl : x = .ref a := ro
        obtain ⟨y, _, rfl, ry, e⟩ := rv; cases e; cases hid
        obtain ⟨l, hO, hs, hk⟩ := h
        obtain ⟨ys, hp, hl, hr⟩ := i.lists _ _ hO
        refine list_append_plainL hp (fun h' hp' sb => q _ _ .none _ (i.store (xs := ys ++ [y]) hO sb rfl rfl (by simpa using hp') (by simp; omega) (hr.append (show Reps c.w s.heap O [v] [y] from ⟨y, [], rfl, ry, rfl⟩))) rfl hk) ?_
        rw [List.size_toArray, ← hr.length]; exact size_line hl
      · exact h.elim
    | _ => exact h.elim
  | pop =>
    cases o with
    | lst a =>
      cases vs with
      | nil =>
        obtain rfl : x = .ref a := ro
        cases rv; cases hid
        obtain ⟨l, v, hO, hk⟩ := h
        obtain ⟨ys, ⟨⟨_, dd, _, sl⟩, n, h1, h2, h3, h4⟩, hl, hr⟩ := i.lists _ _ hO
        cases h2; cases h3; cases h4
        have hlen := hr.length
        have hget : (l ++ [v])[l.length]? = some v := by simp
        obtain ⟨z, hz, hrz⟩ := hr.get hget
        have hn : ys.length = l.length + 1 := by rw [← hlen]; simp
        refine call_meets PySem.F.slot_list_pop ⟨_, h1, rfl⟩ PySem.F.entry_list_pop (PySem.F.args_list_pop_1 _) (pop_meets a ys.toArray n none sl z (by rw [List.size_toArray, hn, List.getElem?_toArray]; exact hz) (by rw [List.size_toArray, ← hlen]; exact size_line hl)) ⟨h1, ?_⟩
        have nx : Next c s O { s with heap := s.heap.update a (Obj.mapSeq fun xs => xs.eraseIdxIfInBounds (ys.toArray.size - 1)) } (upd O a (.list l)) := by
          refine i.store (xs := ys.take l.length) (l' := l) hO (Heap.SameBut.update ..) rfl rfl (PlainL.of_update h1 rfl rfl rfl ?_) ?_ ?_
          · rw [List.size_toArray, hn]
            unfold Array.eraseIdxIfInBounds
            rw [dif_pos (by rw [List.size_toArray, hn]; omega)]
            simp only [List.eraseIdx_toArray, Nat.add_sub_cancel]
            rw [List.eraseIdx_eq_take_drop_succ, List.drop_of_length_le (by omega)]
            simp
          · simp at hl; omega
          · have := hr.take l.length
            simpa using this
        exact q _ _ v _ nx (nx.rep hrz) hk
      | cons _ _ => exact h.elim
    | _ => exact h.elim
  | get =>
    cases o with
    | dct l =>
      rcases vs with _ | ⟨v1, _ | ⟨v2, _ | ⟨v3, vs⟩⟩⟩
      · exact h.elim
      · exact (by cases v1 <;> exact h : False).elim
      · cases v1 with
        | str k =>
          cases v2 with
          | str d =>
            obtain ⟨a, rfl, hO, hsys, f, hm, hf⟩ := ro
            obtain ⟨_, _, rfl, ⟨_, u, rfl⟩, _, _, rfl, ⟨hd, v, rfl⟩, e⟩ := rv; cases e; cases hid
            have h : K (.str ((look l k).getD d)) O := h
            have := hf k
            refine call_meetsIn PySem.F.slot_dict_get hm.typeIs PySem.F.entry_dict_get (PySem.F.args_dict_get_3 _ _ _) (meets_dict_get_default (strKind pg c.w) a (k := ⟨k.toArray⟩) (strKind_is pg c.w _ u) hsys _) ⟨f, hm, ?_⟩
            cases hl : look l k with
            | none => rw [hl] at this h; rw [this]; exact q _ _ (.str d) _ (i.pure (.toks _ _)) ⟨hd, _, rfl⟩ h
            | some z => rw [hl] at this h; obtain ⟨hz, t', e⟩ := this; rw [e]; exact q _ _ (.str z) _ (i.pure (.toks _ _)) ⟨hz, _, rfl⟩ h
          | _ => exact h.elim
        | _ => exact h.elim
      · exact (by cases v1 <;> first | exact h | (cases v2 <;> exact h) : False).elim
    | _ => exact h.elim
end
end Mine
end
section
open PySem PySem.W PySem.Calls PyProof.Rows PySem.SeqAt
set_option Elab.async false
namespace Mine
noncomputable def strsOf : List V → Option (List (List Nat))
  | [] => some []
  | .str x :: l => (strsOf l).map (x :: ·)
  | _ :: _ => none
noncomputable def cmpQ (O : MH) (o : CmpOp) (a b : V) (K : Bool → Prop) : Prop := match o, a, b with
  | .Eq, .tup [.str x, .int i], .tup [.str y, .int j] => K (x == y && i == j)
  | .NotEq, .tup [.str x, .int i], .tup [.str y, .int j] => K (!(x == y && i == j))
  | .Eq, .lst a, b => ∃ x y, (asL O (.lst a)).bind strsOf = some x ∧ (asL O b).bind strsOf = some y ∧ K (x == y)
  | .In, .str x, .tup l => ∃ ys, strsOf l = some ys ∧ K (ys.contains x)
  | _, _, _ => cmpP o a b K
theorem pair_of {l : List V} : (∃ x i, l = [.str x, .int i]) ∨ ∀ (O : MH) (b : V) (K : Bool → Prop), ¬cmpQ O .Eq (.tup l) b K ∧ ¬cmpQ O .NotEq (.tup l) b K := by
  rcases l with _ | ⟨v1, _ | ⟨v2, _ | ⟨v3, l⟩⟩⟩
  · exact .inr fun O b K => ⟨fun h => h, fun h => h⟩
  · right; intro O b K; cases v1 <;> exact ⟨fun h => h, fun h => h⟩
  · cases v1 with
    | str x => cases v2 with
      | int i => exact .inl ⟨_, _, rfl⟩
      | _ => exact .inr fun O b K => ⟨fun h => h, fun h => h⟩
    | _ => exact .inr fun O b K => ⟨fun h => h, fun h => h⟩
  · right; intro O b K; cases v1 <;> first | exact ⟨fun h => h, fun h => h⟩ | (cases v2 <;> exact ⟨fun h => h, fun h => h⟩)
theorem pair_of2 {x : List Nat} {i : Int} {b : V} {O : MH} {K : Bool → Prop} {op : CmpOp} (ho : op = .Eq ∨ op = .NotEq) (h : cmpQ O op (.tup [.str x, .int i]) b K) : ∃ y j, b = .tup [.str y, .int j] := by
  cases b with
  | tup l =>
    rcases l with _ | ⟨v1, _ | ⟨v2, _ | ⟨v3, l⟩⟩⟩
    · rcases ho with rfl | rfl <;> exact (h : False).elim
    · rcases ho with rfl | rfl <;> exact (by cases v1 <;> exact h : False).elim
    · cases v1 with
      | str y => cases v2 with
        | int j => exact ⟨_, _, rfl⟩
        | _ => rcases ho with rfl | rfl <;> exact (h : False).elim
      | _ => rcases ho with rfl | rfl <;> exact (h : False).elim
    · rcases ho with rfl | rfl <;> exact (by cases v1 <;> first | exact h | (cases v2 <;> exact h) : False).elim
  | _ => rcases ho with rfl | rfl <;> exact (h : False).elim
theorem pair_inv {l : List V} {b : V} {O : MH} {K : Bool → Prop} (h : cmpQ O .Eq (.tup l) b K) : ∃ x i y j, l = [.str x, .int i] ∧ b = .tup [.str y, .int j] ∧ K (x == y && i == j) := by
  rcases pair_of (l := l) with ⟨x, i, rfl⟩ | q
  · obtain ⟨y, j, rfl⟩ := pair_of2 (.inl rfl) h
    exact ⟨x, i, y, j, rfl, rfl, h⟩
  · exact absurd h (q O b K).1
theorem pair_inv_ne {l : List V} {b : V} {O : MH} {K : Bool → Prop} (h : cmpQ O .NotEq (.tup l) b K) : ∃ x i y j, l = [.str x, .int i] ∧ b = .tup [.str y, .int j] ∧ K (!(x == y && i == j)) := by
  rcases pair_of (l := l) with ⟨x, i, rfl⟩ | q
  · obtain ⟨y, j, rfl⟩ := pair_of2 (.inr rfl) h
    exact ⟨x, i, y, j, rfl, rfl, h⟩
  · exact absurd h (q O b K).2
theorem strs_at {w : World} {h : Heap} {O : MH} : ∀ {l : List V} {xs : List Value} {ys : List (List Nat)}, Reps w h O l xs → strsOf l = some ys → xs.length = ys.length ∧ ∀ i (h1 : i < xs.length) (h2 : i < ys.length), ∃ t, xs[i] = .str ⟨(ys[i]).toArray⟩ t
  | [], xs, ys, r, e => by
    cases e
    have : xs = [] := r
    subst this
    exact ⟨rfl, fun i h1 => absurd h1 (Nat.not_lt_zero _)⟩
  | .str x :: l, xs, ys, r, e => by
    obtain ⟨y, r', rfl, ⟨_, t, rfl⟩, b⟩ := r
    simp only [strsOf, Option.map_eq_some_iff] at e
    obtain ⟨zs, hz, rfl⟩ := e
    obtain ⟨h1, h2⟩ := strs_at b hz
    refine ⟨by simp [h1], fun i q1 q2 => ?_⟩
    cases i with
    | zero => exact ⟨t, rfl⟩
    | succ i => exact h2 i (by simpa using q1) (by simpa using q2)
  | .none :: _, _, _, _, e => nomatch e
  | .bool _ :: _, _, _, _, e => nomatch e
  | .int _ :: _, _, _, _, e => nomatch e
  | .tup _ :: _, _, _, _, e => nomatch e
  | .fl _ :: _, _, _, _, e => nomatch e
  | .lst _ :: _, _, _, _, e => nomatch e
  | .dct _ :: _, _, _, _, e => nomatch e
  | .rng _ _ :: _, _, _, _, e => nomatch e
  | .die _ :: _, _, _, _, e => nomatch e
  | .undef :: _, _, _, _, e => nomatch e

theorem getD_at (x : List (List Nat)) (j : Nat) (h : j < x.length) : x.getD j [] = x[j] := by
  rw [List.getD_eq_getElem?_getD, List.getElem?_eq_getElem h]; rfl
theorem all_eq (x y : List (List Nat)) (h : x.length = y.length) : (List.range x.length).all (fun i => x.getD i [] == y.getD i []) = (x == y) := by
  induction x generalizing y with
  | nil => cases y with
    | nil => rfl
    | cons _ _ => cases h
  | cons a x ih =>
    cases y with
    | nil => cases h
    | cons b y =>
      have := ih y (by simpa using h)
      rw [List.length_cons, List.range_succ_eq_map, List.all_cons, List.all_map]
      simp only [List.cons_beq_cons]
      rw [← this]
      rfl
section
variable {A : Around} {O : MH} {s : Shared}
theorem pair_eq {x y : List Nat} {i j : Int} {t t' u u' : Tok} : ∀ k (h1 : k < (#[Value.str ⟨x.toArray⟩ t, Value.int i u] : Array Value).size) (h2 : k < (#[Value.str ⟨y.toArray⟩ t', Value.int j u'] : Array Value).size),
    EqAt A s (#[Value.str ⟨x.toArray⟩ t, Value.int i u] : Array Value)[k] (#[Value.str ⟨y.toArray⟩ t', Value.int j u'] : Array Value)[k] (if k = 0 then x == y else i == j) := fun k h1 h2 => by
  match k, h1, h2 with
  | 0, _, _ =>
    have := EqAt.str_str (A := A) (s := s) ⟨x.toArray⟩ t ⟨y.toArray⟩ t'
    rw [str_inj] at this
    exact this
  | 1, _, _ => exact EqAt.int_int i u j u'
theorem pair_rep {w : World} {h : Heap} {x : List Nat} {i : Int} {v : Value} (r : Rep w h O (.tup [.str x, .int i]) v) : ∃ a t u, v = .ref a ∧ IsTup h a #[.str ⟨x.toArray⟩ t, .int i u] := by
  obtain ⟨a, xs, rfl, ht, _, _, _, _, rfl, ⟨_, t, rfl⟩, _, _, rfl, ⟨u, rfl⟩, e⟩ := r
  cases e
  exact ⟨a, t, u, rfl, ht⟩
theorem cmpQ_ok {c : Cx} (i : Inv c O s) (hu : A.units < cLine) {op : CmpOp} {a b : V} {x y : Value} {K : Bool → Prop} (ra : Rep c.w s.heap O a x) (rb : Rep c.w s.heap O b y) (h : cmpQ O op a b K) :
    Gv c.w A s (compareOp op x y) fun _ r => ∃ b, r = .bool b ∧ K b := by
  cases op with
  | Eq =>
    cases a with
    | tup l =>
      obtain ⟨x, i₁, y, j, rfl, rfl, hk⟩ := pair_inv h
      intro Q E q
      obtain ⟨a1, t, u, rfl, h1⟩ := pair_rep ra
      obtain ⟨a2, t', u', rfl, h2⟩ := pair_rep rb
      refine eq_tupleAt h1 h2 hu pair_eq (q _ _ (.refl _) ⟨_, rfl, ?_⟩)
      simpa [List.range_succ] using hk
    | lst a1 =>
      intro Q E q
      obtain ⟨x', y', hx, hy, hk⟩ := h
      obtain ⟨l1, g1, g1'⟩ := Option.bind_eq_some_iff.mp hx
      obtain ⟨l2, g2, g2'⟩ := Option.bind_eq_some_iff.mp hy
      obtain ⟨b1, xs, rfl, k1, _, k3⟩ := ra.asL i g1
      obtain ⟨b2, ys, rfl, m1, _, m3⟩ := rb.asL i g2
      obtain ⟨p1, p2⟩ := strs_at k3 g1'
      obtain ⟨q1, q2⟩ := strs_at m3 g2'
      by_cases hl : xs.length = ys.length
      · refine eq_listAt (e := fun i => x'.getD i [] == y'.getD i []) k1 m1 (by simpa using hl) hu (fun j h1 h2 => ?_) (q _ _ (.refl _) ⟨_, rfl, ?_⟩)
        · simp at h1 h2
          obtain ⟨t, e1⟩ := p2 j h1 (by omega)
          obtain ⟨t', e2⟩ := q2 j h2 (by omega)
          have := EqAt.str_str (A := A.in1) (s := s) ⟨(x'[j]'(by omega)).toArray⟩ t ⟨(y'[j]'(by omega)).toArray⟩ t'
          rw [str_inj, ← e1, ← e2] at this
          simp only [List.getElem_toArray]
          rw [getD_at x' j (by omega), getD_at y' j (by omega)]
          exact this
        · rw [List.size_toArray, p1, all_eq _ _ (by omega)]; exact hk
      · refine eq_list_lengthsAt k1 m1 (by simpa using hl) hu (q _ _ (.refl _) ⟨_, rfl, ?_⟩)
        have : (x' == y') = false := by
          rw [beq_eq_false_iff_ne]; rintro rfl; omega
        rw [this] at hk; exact hk
    | _ => exact cmp_ok ra rb h
  | NotEq =>
    cases a with
    | tup l =>
      obtain ⟨x, i₁, y, j, rfl, rfl, hk⟩ := pair_inv_ne h
      intro Q E q
      obtain ⟨a1, t, u, rfl, h1⟩ := pair_rep ra
      obtain ⟨a2, t', u', rfl, h2⟩ := pair_rep rb
      refine RcNeAt.tuples h1 h2 hu pair_eq pg c.w E Q (q _ _ (.refl _) ⟨_, rfl, ?_⟩)
      simpa [List.range_succ] using hk
    | _ => exact cmp_ok ra rb h
  | In =>
    cases a with
    | str x' =>
      cases b with
      | tup l =>
        intro Q E q
        obtain ⟨_, t, rfl⟩ := ra
        obtain ⟨a2, xs, rfl, ht, _, _, hr⟩ := rb
        obtain ⟨ys, hy, hk⟩ := h
        obtain ⟨p1, p2⟩ := strs_at hr hy
        refine in_tupleAt (fun v => match v with | .str z _ => z == ⟨x'.toArray⟩ | _ => false) ht (fun v hv => ?_) (q _ _ (.refl _) ⟨_, rfl, ?_⟩)
        · obtain ⟨j, hj, rfl⟩ := List.getElem_of_mem (by simpa using hv : v ∈ xs)
          obtain ⟨u, e⟩ := p2 j hj (by omega)
          rw [e]
          exact EqAt.str_str _ _ _ _
        · have : xs.toArray.any (fun v => match v with | .str z _ => z == ⟨x'.toArray⟩ | _ => false) = ys.contains x' := by
            rw [Bool.eq_iff_iff]
            simp only [List.any_toArray, List.any_eq_true, List.contains_iff_mem]
            constructor
            · rintro ⟨v, hv, e⟩
              obtain ⟨j, hj, rfl⟩ := List.getElem_of_mem hv
              obtain ⟨u, e'⟩ := p2 j hj (by omega)
              rw [e'] at e
              simp only [str_inj, beq_iff_eq] at e
              exact e ▸ List.getElem_mem _
            · intro hx
              obtain ⟨j, hj, e⟩ := List.getElem_of_mem hx
              obtain ⟨u, e'⟩ := p2 j (by omega) hj
              refine ⟨xs[j]'(by omega), List.getElem_mem _, ?_⟩
              rw [e']
              simp only [str_inj, beq_iff_eq]
              exact e
          rw [this]; exact hk
      | _ => exact cmp_ok ra rb h
    | _ => exact cmp_ok ra rb h
  | _ => exact cmp_ok ra rb h
end
end Mine
end
section
open PySem PySem.W PySem.Calls PyProof.Rows
set_option Elab.async false
namespace Mine
/-- the text's defs -/
inductive Fn
  | closer_of | line_of_place | delimited | unguarded | read_q | read_qw | digits_value | coded_sign | braced_code | escape_at
  | great_letter | small_letter | is_plain_word_sign | cased_text | here_end | here_body
  | add_part | close_case | end_case | begin_case | take_case | take_piece | parts_of | plain_qq
  | ends | escapes | rows | take | inner | refused | quotes | words | cased | escaped | here | law
/-- its constants -/
inductive Gl | CLOSERS | SHORT_ESCAPES | CODE_FIGURES | TOP_CODE | SHORT_CASES | LAW_PLAIN
inductive Bf | len | chr | ord

noncomputable def Fn.row : Fn → Nat
  | .closer_of => 0 | .line_of_place => 1 | .delimited => 2 | .unguarded => 3 | .read_q => 4 | .read_qw => 5 | .digits_value => 6 | .coded_sign => 7 | .braced_code => 8 | .escape_at => 9
  | .great_letter => 10 | .small_letter => 11 | .is_plain_word_sign => 12 | .cased_text => 13 | .here_end => 14 | .here_body => 15
  | .add_part => 16 | .close_case => 17 | .end_case => 18 | .begin_case => 19 | .take_case => 20 | .take_piece => 21 | .parts_of => 22 | .plain_qq => 23
  | .ends => 24 | .escapes => 25 | .rows => 26 | .take => 27 | .inner => 28 | .refused => 29 | .quotes => 30 | .words => 31 | .cased => 32 | .escaped => 33 | .here => 34 | .law => 35
noncomputable def Fn.addr (f : Fn) : Addr := (fnRows.getD f.row (0, 0, .none)).2.1
noncomputable def Fn.name (f : Fn) : Str := (codeRows.getD f.row (0, S [])).2
noncomputable def Gl.name : Gl → Str
  | .CLOSERS => S [67, 76, 79, 83, 69, 82, 83] | .SHORT_ESCAPES => S [83, 72, 79, 82, 84, 95, 69, 83, 67, 65, 80, 69, 83] | .CODE_FIGURES => S [67, 79, 68, 69, 95, 70, 73, 71, 85, 82, 69, 83]
  | .TOP_CODE => S [84, 79, 80, 95, 67, 79, 68, 69] | .SHORT_CASES => S [83, 72, 79, 82, 84, 95, 67, 65, 83, 69, 83] | .LAW_PLAIN => S [95, 108, 97, 119, 95, 112, 108, 97, 105, 110]
noncomputable def closersL : List (List Nat × List Nat) := [([40], [41]), ([91], [93]), ([123], [125]), ([60], [62])]
noncomputable def shortsL : List (List Nat × List Nat) := [([110], [10]), ([116], [9]), ([114], [13]), ([102], [12]), ([98], [8]), ([97], [7]), ([101], [27])]
noncomputable def Gl.val : Gl → V
  | .CLOSERS => .dct closersL
  | .SHORT_ESCAPES => .dct shortsL
  | .CODE_FIGURES => .str [48, 49, 50, 51, 52, 53, 54, 55, 56, 57, 97, 98, 99, 100, 101, 102]
  | .TOP_CODE => .int 1114111
  | .SHORT_CASES => .str [117, 108]
  | .LAW_PLAIN => .str [97, 66, 48, 32, 95, 46, 59, 10]
noncomputable def Bf.name : Bf → String
  | .len => "len" | .chr => "chr" | .ord => "ord"
noncomputable def Bf.str : Bf → Str
  | .len => S [108, 101, 110] | .chr => S [99, 104, 114] | .ord => S [111, 114, 100]

mutual
inductive X
  | none (p : Pos)
  | bool (b : Bool) (p : Pos)
  | int (i : Int) (p : Pos)
  | str (x : List Nat) (p : Pos)
  | loc (i : Nat) (p : Pos)
  | gl (g : Gl) (p : Pos)
  | bin (o : Operator) (a b : X) (p : Pos)
  | neg (i : Int) (q p : Pos)
  | cmp (o : CmpOp) (a b : X) (p : Pos)
  | cmp2 (o o' : CmpOp) (a b c : X) (p : Pos)
  | boolop (o : BoolOp) (x : X) (xs : Xs) (p : Pos)
  | not (a : X) (p : Pos)
  | ife (t a b : X) (p : Pos)
  | list (owned : Bool) (xs : Xs) (p : Pos)
  | tup (xs : Xs) (p : Pos)
  | dict (l : List ((List Nat × Pos) × (List Nat × Pos))) (p : Pos)
  | sub (a i : X) (p : Pos)
  | sl (a lo hi : X) (q p : Pos)
  | slTo (a hi : X) (q p : Pos)
  | slFrom (a lo : X) (q p : Pos)
  | call (f : Fn) (q : Pos) (xs : Xs) (p : Pos)
  | bcall (f : Bf) (q : Pos) (a : X) (p : Pos)
  | rng1 (q : Pos) (a : X) (p : Pos)
  | rng2 (q : Pos) (a b : X) (p : Pos)
  | meth (o : X) (m : Mt) (q : Pos) (xs : Xs) (p : Pos)
  | line (o : X) (q : Pos)
  | dead (f : Str) (q : Pos) (xs : Xs) (p : Pos)
inductive Xs
  | nil
  | cons (x : X) (xs : Xs)
end
mutual
inductive St
  | assign (i : Nat) (q : Pos) (e : X) (p : Pos)
  | unpack (i j : Nat) (q q' t : Pos) (e : X) (p : Pos)
  | setsub (o i : X) (t : Pos) (e : X) (p : Pos)
  | aug (i : Nat) (q : Pos) (o : Operator) (e : X) (p : Pos)
  | expr (e : X) (p : Pos)
  | ret (e : X) (p : Pos)
  | ifs (t : X) (b o : Sts) (p : Pos)
  | whil (t : X) (b : Sts) (p : Pos)
  | fore (i : Nat) (q : Pos) (it : X) (b : Sts) (p : Pos)
  | brk (p : Pos)
  | cont (p : Pos)
  | raise (a b : X) (q c p : Pos)
  | tryRet (b : Sts) (nm : Option Nat) (q : Pos) (e : X) (r h p : Pos)
inductive Sts
  | nil
  | cons (s : St) (b : Sts)
end

section
variable (N : Nat → Str)
mutual
noncomputable def X.emb : X → Expr
  | .none p => .Constant .none 0 p
  | .bool b p => .Constant (.bool b) 0 p
  | .int i p => .Constant (.int i) 0 p
  | .str x p => .Constant (.str (S x)) 0 p
  | .loc i p => .Name (N i) p
  | .gl g p => .Name g.name p
  | .bin o a b p => .BinOp a.emb o b.emb p
  | .neg i q p => .UnaryOp .USub (.Constant (.int i) 0 q) p
  | .cmp o a b p => .Compare a.emb [o] [b.emb] p
  | .cmp2 o o' a b c p => .Compare a.emb [o, o'] [b.emb, c.emb] p
  | .boolop o x xs p => .BoolOp o (x.emb :: xs.emb) p
  | .not a p => .UnaryOp .Not a.emb p
  | .ife t a b p => .IfExp t.emb a.emb b.emb p
  | .list _ xs p => .List xs.emb p
  | .tup xs p => .Tuple xs.emb 0 p
  | .dict l p => .Dict (l.map fun e => some (.Constant (.str (S e.1.1)) 0 e.1.2)) (l.map fun e => .Constant (.str (S e.2.1)) 0 e.2.2) p
  | .sub a i p => .Subscript a.emb i.emb p
  | .sl a lo hi q p => .Subscript a.emb (.Slice (some lo.emb) (some hi.emb) none q) p
  | .slTo a hi q p => .Subscript a.emb (.Slice none (some hi.emb) none q) p
  | .slFrom a lo q p => .Subscript a.emb (.Slice (some lo.emb) none none q) p
  | .call f q xs p => .Call (.Name f.name q) xs.emb [] p
  | .bcall f q a p => .Call (.Name f.str q) [a.emb] [] p
  | .rng1 q a p => .Call (.Name (S [114, 97, 110, 103, 101]) q) [a.emb] [] p
  | .rng2 q a b p => .Call (.Name (S [114, 97, 110, 103, 101]) q) [a.emb, b.emb] [] p
  | .meth o m q xs p => .Call (.Attribute o.emb m.name q) xs.emb [] p
  | .line o q => .Attribute o.emb (S [108, 105, 110, 101]) q
  | .dead f q xs p => .Call (.Name f q) xs.emb [] p
noncomputable def Xs.emb : Xs → List Expr
  | .nil => []
  | .cons x xs => x.emb :: xs.emb
end
mutual
noncomputable def St.emb : St → Stmt
  | .assign i q e p => .Assign [.Name (N i) q] (e.emb N) p
  | .unpack i j q q' t e p => .Assign [.Tuple [.Name (N i) q, .Name (N j) q'] 0 t] (e.emb N) p
  | .setsub o i t e p => .Assign [.Subscript (o.emb N) (i.emb N) t] (e.emb N) p
  | .aug i q o e p => .AugAssign (.Name (N i) q) o (e.emb N) p
  | .expr e p => .Expr (e.emb N) p
  | .ret e p => .Return (some (e.emb N)) p
  | .ifs t b o p => .If (t.emb N) b.emb o.emb p
  | .whil t b p => .While (t.emb N) b.emb [] p
  | .fore i q it b p => .For (.Name (N i) q) (it.emb N) b.emb [] p
  | .brk p => .Break p
  | .cont p => .Continue p
  | .raise a b q c p => .Raise (some (.Call (.Name (S [83, 121, 110, 116, 97, 120, 68, 105, 101]) q) [a.emb N, b.emb N] [] c)) none p
  | .tryRet b nm q e r h p => .Try b.emb [.ExceptHandler (some (.Name (S [83, 121, 110, 116, 97, 120, 68, 105, 101]) q)) (nm.map N) [.Return (some (e.emb N)) r] h] [] [] p
noncomputable def Sts.emb : Sts → List Stmt
  | .nil => []
  | .cons s b => s.emb :: b.emb
end
end

inductive Fl | next | brk | cont | ret (v : V)

noncomputable abbrev CallP := Fn → List V → MH → (V → MH → Prop) → (Int → MH → Prop) → Prop

noncomputable def gv (σ : List V) (i : Nat) : V := σ.getD i .undef
noncomputable def V.isDef : V → Bool
  | .undef => false
  | _ => true
noncomputable def asB (v : V) (K : Bool → Prop) : Prop := match v with
  | .bool b => K b
  | _ => False
noncomputable def asI (v : V) (K : Int → Prop) : Prop := match v with
  | .int i => K i
  | _ => False
noncomputable def bfP (O : MH) (f : Bf) (v : V) (K : V → Prop) : Prop := match f, v with
  | .len, .str x => K (.int x.length)
  | .len, .fl l => K (.int l.length)
  | .len, .lst a => ∃ l, O a = some (.list l) ∧ K (.int l.length)
  | .chr, .int i => 0 ≤ i ∧ i ≤ 1114111 ∧ K (.str [i.toNat])
  | .ord, .str [c] => K (.int c)
  | _, _ => False
noncomputable def dictL (l : List ((List Nat × Pos) × (List Nat × Pos))) : List (List Nat × List Nat) := l.map fun e => (e.1.1, e.2.1)
noncomputable def dictOk (l : List (List Nat × List Nat)) : Bool := decide (l.map (·.1)).Nodup && l.all (fun e => decide (e.2.length ≤ 100)) && decide (l.length ≤ 15) && !l.isEmpty
noncomputable def augP (o : Operator) (a b : V) (K : V → Prop) : Prop := match o, a, b with
  | .Add, .int i, .int j => K (.int (i + j))
  | .Sub, .int i, .int j => K (.int (i - j))
  | .Add, .str x, .str y => x.length + y.length ≤ SZ ∧ K (.str (x ++ y))
  | _, _, _ => False
noncomputable def onDef (v : V) (k : V → Prop) : Prop := match v with
  | .undef => False
  | v => k v
theorem onDef_ok {v : V} {k : V → Prop} (h : onDef v k) : v.isDef = true ∧ k v := by
  cases v <;> first | exact h.elim | exact ⟨rfl, h⟩
noncomputable def mthQ (O : MH) (m : Mt) (v : V) (Q : Prop) : Prop := match m, v with
  | .count, .str _ => Q
  | .find, .str _ => Q
  | .lower, .str _ => Q
  | .lstrip, .str _ => Q
  | .strip, .str _ => Q
  | .append, .lst a => (∃ l, O a = some (.list l)) ∧ Q
  | .pop, .lst a => (∃ l, O a = some (.list l)) ∧ Q
  | .get, .dct _ => Q
  | _, _ => False
theorem mthQ_ok {O : MH} {m : Mt} {v : V} {Q : Prop} (h : mthQ O m v Q) : mOk O m v ∧ Q := by
  cases m <;> cases v <;> first | exact h.elim | exact ⟨⟨rfl, trivial⟩, h⟩ | exact ⟨⟨rfl, h.1⟩, h.2⟩
noncomputable def nn (p : Option Int) (Q : Prop) : Prop := match p with
  | none => Q
  | some i => 0 ≤ i ∧ Q
theorem nn_ok {p : Option Int} {Q : Prop} (h : nn p Q) : nonneg p ∧ Q := by
  cases p with
  | none => exact ⟨fun i e => (nomatch e), h⟩
  | some i => exact ⟨fun j e => Option.some.inj e ▸ h.1, h.2⟩
noncomputable def slQ (a : V) (lo hi : Option Int) (K : V → Prop) : Prop := nn lo (nn hi (match a with
  | .str x => K (.str (cutL x lo hi))
  | .fl l => lo = none ∧ hi ≠ none ∧ K (.fl (cutL l lo hi))
  | _ => False))
theorem slQ_ok {a : V} {lo hi : Option Int} {K : V → Prop} (h : slQ a lo hi K) : slP a lo hi K := by
  obtain ⟨h1, h⟩ := nn_ok h
  obtain ⟨h2, h⟩ := nn_ok h
  exact ⟨h1, h2, by cases a <;> exact h⟩
/-- a proposition held: a head that no reduction passes -/
structure Hold (p : Prop) : Prop where
  out : p
theorem hold_eq (p : Prop) : Hold p = p := propext ⟨Hold.out, Hold.mk⟩
noncomputable def shorts (o : BoolOp) (b : Bool) : Bool := match o with
  | .And => !b
  | .Or => b

section
variable (C : CallP) (σ : List V)
mutual
noncomputable def we : X → MH → (V → MH → Prop) → (Int → MH → Prop) → Prop
  | .none _, O, K, _ => K .none O
  | .bool b _, O, K, _ => K (.bool b) O
  | .int i _, O, K, _ => K (.int i) O
  | .str x _, O, K, _ => K (.str x) O
  | .loc i _, O, K, _ => onDef (gv σ i) fun v => K v O
  | .gl g _, O, K, _ => K g.val O
  | .bin o a b _, O, K, E => we a O (fun va O₁ => we b O₁ (fun vb O₂ => binP O₂ o va vb fun v => K v O₂) E) E
  | .neg i _ _, O, K, _ => K (.int (-i)) O
  | .cmp o a b _, O, K, E => we a O (fun va O₁ => we b O₁ (fun vb O₂ => cmpQ O₂ o va vb fun r => K (.bool r) O₂) E) E
  | .cmp2 o o' a b c _, O, K, E => we a O (fun va O₁ => we b O₁ (fun vb O₂ => cmpQ O₂ o va vb fun r =>
      if r = true then we c O₂ (fun vc O₃ => cmpQ O₃ o' vb vc fun r' => K (.bool r') O₃) E else K (.bool false) O₂) E) E
  | .boolop o x xs _, O, K, E => we x O (fun v O₁ => asB v fun b => if shorts o b = true then K (.bool b) O₁ else wbo o b xs O₁ K E) E
  | .not a _, O, K, E => we a O (fun v O₁ => asB v fun b => K (.bool !b) O₁) E
  | .ife t a b _, O, K, E => we t O (fun v O₁ => asB v fun c => if c = true then we a O₁ K E else we b O₁ K E) E
  | .list owned xs _, O, K, E => wes xs O (fun vs O₁ => match owned with | true => ∀ a, O₁ a = none → K (.lst a) (upd O₁ a (.list vs)) | false => K (.fl vs) O₁) E
  | .tup xs _, O, K, E => wes xs O (fun vs O₁ => K (.tup vs) O₁) E
  | .dict l _, O, K, _ => dictOk (dictL l) = true ∧ K (.dct (dictL l)) O
  | .sub a i _, O, K, E => we a O (fun va O₁ => we i O₁ (fun vi O₂ => subP O₂ va vi fun v => K v O₂) E) E
  | .sl a lo hi _ _, O, K, E => we a O (fun va O₁ => we lo O₁ (fun vl O₂ => we hi O₂ (fun vh O₃ => asI vl fun i => asI vh fun j => slQ va (some i) (some j) fun v => K v O₃) E) E) E
  | .slTo a hi _ _, O, K, E => we a O (fun va O₁ => we hi O₁ (fun vh O₂ => asI vh fun j => slQ va none (some j) fun v => K v O₂) E) E
  | .slFrom a lo _ _, O, K, E => we a O (fun va O₁ => we lo O₁ (fun vl O₂ => asI vl fun i => slQ va (some i) none fun v => K v O₂) E) E
  | .call f _ xs _, O, K, E => wes xs O (fun vs O₁ => Hold (C f vs O₁ K E)) E
  | .bcall f _ a _, O, K, E => we a O (fun v O₁ => bfP O₁ f v fun v' => K v' O₁) E
  | .rng1 _ a _, O, K, E => we a O (fun v O₁ => asI v fun j => K (.rng 0 j) O₁) E
  | .rng2 _ a b _, O, K, E => we a O (fun va O₁ => we b O₁ (fun vb O₂ => asI va fun i => asI vb fun j => K (.rng i j) O₂) E) E
  | .meth o m _ xs _, O, K, E => we o O (fun vo O₁ => mthQ O₁ m vo (wes xs O₁ (fun vs O₂ => methP O₂ m vo vs K) E)) E
  | .line o _, O, K, E => we o O (fun v O₁ => match v with | .die i => K (.int i) O₁ | _ => False) E
  | .dead _ _ _ _, _, _, _ => False
noncomputable def wes : Xs → MH → (List V → MH → Prop) → (Int → MH → Prop) → Prop
  | .nil, O, K, _ => K [] O
  | .cons x xs, O, K, E => we x O (fun v O₁ => wes xs O₁ (fun vs O₂ => K (v :: vs) O₂) E) E
noncomputable def wbo (o : BoolOp) (b₀ : Bool) : Xs → MH → (V → MH → Prop) → (Int → MH → Prop) → Prop
  | .nil, O, K, _ => K (.bool b₀) O
  | .cons x xs, O, K, E => we x O (fun v O₁ => asB v fun b => if shorts o b = true then K (.bool b) O₁ else wbo o b xs O₁ K E) E
end
end
noncomputable def noC : CallP := fun _ _ _ _ _ => False
noncomputable def itemsOf : V → Option (List V)
  | .str x => some (x.map fun c => .str [c])
  | .fl l => some l
  | .rng a b => if 0 ≤ a ∧ a ≤ 1000000 ∧ 0 ≤ b ∧ b ≤ 1000000 then some ((List.range (b - a).toNat).map fun (k : Nat) => .int (a + (k : Int))) else none
  | _ => none
noncomputable def isRef : V → Bool
  | .none | .bool _ | .int _ | .str _ => false
  | _ => true
noncomputable def loopK (I : List V → MH → Prop) (K : Fl → List V → MH → Prop) (f : Fl) (σ : List V) (O : MH) : Prop := match f with
  | .next | .cont => I σ O
  | .brk => K .next σ O
  | .ret v => K (.ret v) σ O
section
variable (C : CallP)
mutual
noncomputable def ws : St → List V → MH → (Fl → List V → MH → Prop) → (Int → MH → Prop) → Prop
  | .assign i _ e _, σ, O, K, E => we C σ e O (fun v O₁ => K .next (σ.set i v) O₁) E
  | .unpack i j _ _ _ e _, σ, O, K, E => we C σ e O (fun v O₁ => match v with
      | .tup [a, b] => K .next ((σ.set i a).set j b) O₁
      | .lst ad => ∃ a b, O₁ ad = some (.list [a, b]) ∧ K .next ((σ.set i a).set j b) O₁
      | _ => False) E
  | .setsub o i _ e _, σ, O, K, E => we C σ e O (fun v O₁ => we C σ o O₁ (fun vo O₂ => we C σ i O₂ (fun vi O₃ => match vo with
      | .lst a => asI vi fun k => ∃ l, O₃ a = some (.list l) ∧ 0 ≤ k ∧ k < l.length ∧ K .next σ (upd O₃ a (.list (l.set k.toNat v)))
      | _ => False) E) E) E
  | .aug i _ o e _, σ, O, K, E => onDef (gv σ i) fun v₀ => we C σ e O (fun v O₁ => augP o v₀ v fun r => K .next (σ.set i r) O₁) E
  | .expr e _, σ, O, K, E => we C σ e O (fun _ O₁ => K .next σ O₁) E
  | .ret e _, σ, O, K, E => we C σ e O (fun v O₁ => K (.ret v) σ O₁) E
  | .ifs t b o _, σ, O, K, E => we C σ t O (fun v O₁ => asB v fun c => if c = true then wsb b σ O₁ K E else wsb o σ O₁ K E) E
  | .whil t b _, σ, O, K, E => ∃ I : Nat → List V → MH → Prop, (∃ n, I n σ O) ∧ ∀ n σ O, I n σ O →
      we C σ t O (fun v O₁ => asB v fun c => if c = true then wsb b σ O₁ (loopK (fun σ' O' => ∃ m, m < n ∧ I m σ' O') K) E else K .next σ O₁) E
  | .fore i _ it b _, σ, O, K, E => we C σ it O (fun v O₁ => ∃ items, itemsOf v = some items ∧ ∃ I : List V → List V → MH → Prop, I items σ O₁ ∧
      (∀ x r σ O, I (x :: r) σ O → wsb b (σ.set i x) O (loopK (I r) K) E) ∧ ∀ σ O, I [] σ O → K .next σ O) E
  | .brk _, σ, O, K, _ => K .brk σ O
  | .cont _, σ, O, K, _ => K .cont σ O
  | .raise a b _ _ _, σ, O, _, E => we C σ a O (fun va O₁ => we C σ b O₁ (fun vb O₂ => match va with
      | .str _ => asI vb fun i => E i O₂
      | _ => False) E) E
  | .tryRet b nm _ e _ _ _, σ, O, K, E => wsb b σ O K (fun i O₁ => match nm with
      | none => we noC σ e O₁ (fun v O₂ => K (.ret v) σ O₂) (fun _ _ => False)
      | some n => ∀ σ', σ' = σ.set n (.die i) → we noC σ' e O₁ (fun v O₂ => isRef v = false ∧ K (.ret v) σ O₂) (fun _ _ => False))
noncomputable def wsb : Sts → List V → MH → (Fl → List V → MH → Prop) → (Int → MH → Prop) → Prop
  | .nil, σ, O, K, _ => K .next σ O
  | .cons s b, σ, O, K, E => ws s σ O (fun f σ₁ O₁ => match f with
      | .next => wsb b σ₁ O₁ K E
      | .brk => K .brk σ₁ O₁
      | .cont => K .cont σ₁ O₁
      | .ret v => K (.ret v) σ₁ O₁) E
end
end
end Mine
end
section
open PySem PySem.W PySem.Calls PyProof.Rows
set_option Elab.async false
namespace Mine
/-- where an exception flies: out of a def; raised here (with a traceback or none yet); noted here -/
inductive Md | out | here (L : Addr) | held (L : Addr)
noncomputable def Traced (h₀ h : Heap) (e : Addr) (vs : Array Value) (P : Value → Prop) : Prop :=
  ∃ T oT ts fl, vs[1]? = some (.ref T) ∧ h₀.get? T = none ∧ T ≠ e ∧ h.get? T = some oT ∧ oT.cls = .type "traceback" ∧ oT.data = .fields ts ∧ ts[3]? = some fl ∧ P fl
noncomputable def Stat (h₀ h : Heap) (e : Addr) (vs : Array Value) : Md → Prop
  | .out => Traced h₀ h e vs fun fl => fl = .none
  | .held L => Traced h₀ h e vs fun fl => fl = .none ∨ fl = rawInt L
  | .here L => vs[1]? = some .none ∨ Traced h₀ h e vs fun fl => fl = .none ∨ fl = rawInt L
noncomputable def Exc (h₀ h : Heap) (O : MH) (e : Addr) (line : Int) (md : Md) : Prop :=
  h₀.get? e = none ∧ ∃ dx oe vs m t, O e = none ∧ O dx = none ∧ h.get? e = some oe ∧ oe.cls = .ref 51 ∧ oe.dict = some dx ∧ oe.data = .fields vs ∧ vs.size = 6 ∧ h.Ns dx m ∧ m (S [108, 105, 110, 101]) = some (.int line t) ∧ Stat h₀ h e vs md
noncomputable def Fly (c : Cx) (md : Md) (s : Shared) (O : MH) (E : Int → MH → Prop) : Value → Shared → Prop := fun ex s' =>
  ∃ e line O', ex = .ref e ∧ Next c s O s' O' ∧ Exc s.heap s'.heap O' e line md ∧ E line O'
noncomputable def Val (c : Cx) (s : Shared) (O : MH) (K : V → MH → Prop) : Value → Shared → Prop := fun x s' => ∃ v O', Next c s O s' O' ∧ Rep c.w s'.heap O' v x ∧ K v O'

theorem Stands.none {h h' : Heap} (st : Stands h h') {a : Addr} (e : h'.get? a = none) : h.get? a = none := by
  cases q : h.get? a with
  | none => rfl
  | some o => obtain ⟨o', q'⟩ := st a o q; rw [e] at q'; cases q'
theorem Traced.base {h₀ h₁ h : Heap} {e : Addr} {vs : Array Value} {P : Value → Prop} (st : Stands h₀ h₁) (x : Traced h₁ h e vs P) : Traced h₀ h e vs P := by
  obtain ⟨T, oT, ts, fl, q1, q2, q3⟩ := x
  exact ⟨T, oT, ts, fl, q1, st.none q2, q3⟩
theorem Exc.base {h₀ h₁ h : Heap} {O : MH} {e : Addr} {line : Int} {md : Md} (st : Stands h₀ h₁) (x : Exc h₁ h O e line md) : Exc h₀ h O e line md := by
  obtain ⟨h1, dx, oe, vs, m, t, h2, h3, h4, h5, h6, h7, h8, h9, h10, h11⟩ := x
  refine ⟨st.none h1, dx, oe, vs, m, t, h2, h3, h4, h5, h6, h7, h8, h9, h10, ?_⟩
  cases md with
  | out => exact Traced.base st h11
  | held L => exact Traced.base st h11
  | here L => exact h11.imp id (Traced.base st)
theorem Fly.from {c : Cx} {md : Md} {s s₁ : Shared} {O O₁ : MH} {E : Int → MH → Prop} (n : Next c s O s₁ O₁) {ex : Value} {s' : Shared} (f : Fly c md s₁ O₁ E ex s') : Fly c md s O E ex s' := by
  obtain ⟨e, line, O', rfl, n', h3, h4⟩ := f
  exact ⟨e, line, O', rfl, n.trans n', h3.base n.stands, h4⟩
theorem Traced.imp {h₀ h : Heap} {e : Addr} {vs : Array Value} {P P' : Value → Prop} (k : ∀ v, P v → P' v) (x : Traced h₀ h e vs P) : Traced h₀ h e vs P' := by
  obtain ⟨T, oT, ts, fl, q1, q2, q3, q4, q5, q6, q7, q8⟩ := x
  exact ⟨T, oT, ts, fl, q1, q2, q3, q4, q5, q6, q7, k _ q8⟩
theorem Fly.md {c : Cx} {md md' : Md} {s : Shared} {O : MH} {E : Int → MH → Prop} {ex : Value} {s' : Shared} (k : ∀ h e vs, Stat s.heap h e vs md → Stat s.heap h e vs md') (f : Fly c md s O E ex s') : Fly c md' s O E ex s' := by
  obtain ⟨e, line, O', rfl, n', ⟨h1, dx, oe, vs, m, t, h2, h3, h4, h5, h6, h7, h8, h9, h10, h11⟩, h4'⟩ := f
  exact ⟨e, line, O', rfl, n', ⟨h1, dx, oe, vs, m, t, h2, h3, h4, h5, h6, h7, h8, h9, h10, k _ _ _ h11⟩, h4'⟩
theorem Fly.here {c : Cx} {L : Addr} {s : Shared} {O : MH} {E : Int → MH → Prop} {ex : Value} {s' : Shared} (f : Fly c .out s O E ex s') : Fly c (.here L) s O E ex s' :=
  f.md (md := .out) (md' := .here L) fun _ _ _ x => .inr (Traced.imp (fun _ e => .inl e) x)
theorem Fly.heldHere {c : Cx} {L : Addr} {s : Shared} {O : MH} {E : Int → MH → Prop} {ex : Value} {s' : Shared} (f : Fly c (.held L) s O E ex s') : Fly c (.here L) s O E ex s' :=
  f.md (md := .held L) (md' := .here L) fun _ _ _ x => .inr x

structure AOk (n : Nat) (c : Cx) (A : Around) : Prop where
  frames : A.frames = some c.fr
  units : A.units + 10 * n + 100 < cLine
  depth : A.depth + 2 * n + 10 < recursionLimit
noncomputable def CallsAt (c : Cx) (A : Around) (C : CallP) : Prop := ∀ f vs O K E, C f vs O K E → ∀ (s : Shared) (xs : List Value), Inv c O s → Reps c.w s.heap O vs xs →
  wpAny (model pg c.w) A (PySem.call (.ref f.addr) xs) (Val c s O K) (Fly c .out s O E) s
noncomputable def CallsOk (n : Nat) (w : World) (C : CallP) : Prop := ∀ (c : Cx) (A : Around), c.w = w → A.handled = none → AOk n c A → CallsAt c A C

/-- a def's activation -/
structure Act (n : Nat) (c : Cx) (A : Around) (env : Env) (N : Nat → Str) (L : Addr) (k : Nat) : Prop where
  ok : AOk n c A
  shape : ∃ name scope a cd, env = envOf name scope L a cd ∧ scope.kind = .function
  top : ∃ outer, c.fr = env :: outer
  loc : ∀ i, i < k → env.kindOf (N i) = some .local ∧ (N i == ("__debug__" : Str)) = false
  inj : ∀ i j, i < k → j < k → N i = N j → i = j

/-- the state within it -/
structure Good (c : Cx) (N : Nat → Str) (L : Addr) (σ : List V) (O : MH) (s : Shared) : Prop where
  inv : Inv c O s
  own : O L = some .frame
  locs : ∃ m, s.heap.Ns L m ∧ ∀ i, i < σ.length → if (gv σ i).isDef = true then ∃ x, m (N i) = some x ∧ Rep c.w s.heap O (gv σ i) x else m (N i) = none

theorem ns_slots {h h' : Heap} {a : Addr} {m : Str → Option Value} (x : h.Ns a m) (k : ∀ o, h.get? a = some o → ∃ sl, h'.get? a = some { o with slots := sl }) : h'.Ns a m := by
  obtain ⟨o, es, ep, e, r⟩ := x
  obtain ⟨sl, e'⟩ := k o e
  exact ⟨_, es, ep, e', r⟩
theorem Good.next {c : Cx} {N : Nat → Str} {L : Addr} {σ : List V} {O O' : MH} {s s' : Shared} (g : Good c N L σ O s) (n : Next c s O s' O') : Good c N L σ O' s' := by
  obtain ⟨m, hm, hl⟩ := g.locs
  have hm' := hm
  obtain ⟨o, es, ep, e, _⟩ := hm'
  refine ⟨n.inv, (n.grow.frame e).mpr g.own, m, ns_slots hm fun o e => (n.kept L o e).2 g.own, fun i hi => ?_⟩
  have := hl i hi
  split
  · rename_i q
    rw [if_pos q] at this
    obtain ⟨x, h1, h2⟩ := this
    exact ⟨x, h1, n.rep h2⟩
  · rename_i q
    rw [if_neg q] at this
    exact this
theorem gv_lt {σ : List V} {i : Nat} (h : (gv σ i).isDef = true) : i < σ.length := by
  unfold gv at h
  rw [List.getD_eq_getElem?_getD] at h
  by_cases q : i < σ.length
  · exact q
  · rw [List.getElem?_eq_none (by omega)] at h; cases h

noncomputable def Xs.len : Xs → Nat
  | .nil => 0
  | .cons _ xs => xs.len + 1
-- what must stand in the scope
section
variable (ks : Str → Option NameKind) (N : Nat → Str) (k : Nat)
noncomputable def isGlob (x : Str) : Bool := (match ks x with | some .globalImplicit => true | _ => false) && !(x == ("__debug__" : Str))
noncomputable def X.isLoc : X → Bool
  | .loc .. => true
  | _ => false
noncomputable def X.isCall : X → Bool
  | .call .. | .bcall .. | .rng1 .. | .rng2 .. | .dead .. => true
  | _ => false
mutual
noncomputable def X.wf : X → Bool
  | .none _ | .bool _ _ | .int _ _ | .neg _ _ _ | .dict _ _ => true
  | .str x _ => decide (x.length ≤ 1000)
  | .loc i _ => decide (i < k)
  | .gl g _ => isGlob ks g.name
  | .bin _ a b _ | .cmp _ a b _ | .sub a b _ | .slTo a b _ _ | .slFrom a b _ _ => a.wf && b.wf
  | .rng2 _ a b _ => isGlob ks (S [114, 97, 110, 103, 101]) && a.wf && b.wf
  | .rng1 _ a _ => isGlob ks (S [114, 97, 110, 103, 101]) && a.wf
  | .cmp2 _ _ a b c _ | .ife a b c _ | .sl a b c _ _ => a.wf && b.wf && c.wf
  | .boolop _ x xs _ => x.wf && xs.wf
  | .not a _ => a.wf
  | .list _ xs _ | .tup xs _ => decide (xs.len ≤ 1000) && xs.wf
  | .call f _ xs _ => isGlob ks f.name && xs.wf
  | .bcall f _ a _ => isGlob ks f.str && a.wf
  | .meth o _ q xs p => o.wf && xs.wf && !o.isCall && q.endLine == p.line && decide (xs.len < 10)
  | .line o _ => o.wf && o.isLoc
  | .dead _ _ _ _ => true
noncomputable def Xs.wf : Xs → Bool
  | .nil => true
  | .cons x xs => x.wf && xs.wf
end
end
theorem emb_base {N : Nat → Str} {env : Env} {n : Str} {w : Sem Value} {x : X} (h : x.isCall = false) : attributeBase (x.emb N) n env w = w := by
  cases x <;> first | rfl | cases h
theorem emb_star (N : Nat → Str) (env : Env) (xs : Xs) : ∀ x : X, starEach (x.emb N :: xs.emb N) env = (false, eval (x.emb N) env) :: starEach (xs.emb N) env := fun x => by cases x <;> rfl
theorem emb_sub {N : Nat → Str} {x : X} (o v : Value) : subscripted (x.emb N) false o v = operate [o, v] (getItem o v) := by cases x <;> rfl
theorem emb_marks {N : Nat → Str} {x : X} (op : CmpOp) : behindInMarks op (x.emb N) = false := by cases x <;> rfl
theorem emb_part {N : Nat → Str} {x : X} (env : Env) : evalPart (some (x.emb N)) env = eval (x.emb N) env := rfl
end Mine
end
section
open PySem PySem.W PySem.Calls PyProof.Rows
set_option Elab.async false
set_option maxRecDepth 4000
namespace Mine
/- the text's own constants -/
noncomputable def tabEs (P : Params) (l : List ((List Nat × Nat) × (List Nat × Nat))) : List DictEntry := l.map fun e => ⟨PyData.keyHash P (S e.1.1), .str (S e.1.1) e.1.2, .str (S e.2.1) e.2.2⟩
theorem tab_find (P : Params) (k : List Nat) : ∀ l : List ((List Nat × Nat) × (List Nat × Nat)), (((tabEs P l).find? fun e => Value.isStrOf (S k) e.key).map (·.val)) = (l.find? fun e => e.1.1 == k).map fun e => .str (S e.2.1) e.2.2
  | [] => rfl
  | e :: l => by
    have h : Value.isStrOf (S k) (.str (S e.1.1) e.1.2) = (e.1.1 == k) := by
      show (S e.1.1 == S k) = _
      exact str_inj _ _
    unfold tabEs
    rw [List.map_cons, List.find?_cons, List.find?_cons]
    dsimp only
    rw [h]
    cases e.1.1 == k
    · exact tab_find P k l
    · rfl
theorem keysLit_tab (P : Params) : ∀ l, KeysLit P (tabEs P l)
  | [] => trivial
  | _ :: l => ⟨⟨_, _, rfl, rfl⟩, keysLit_tab P l⟩
theorem tab_rep {w : World} {h : Heap} {O : MH} {KK : Frag} {a : Addr} {n : Nat} {es : Array DictEntry} {l : List ((List Nat × Nat) × (List Nat × Nat))} {d : List (List Nat × List Nat)} (X : KK.In h) (hl : KK.lookup a = some ⟨.type "dict", none, .dict es n, #[]⟩)
    (he : es.toList = tabEs w.params l) (hd : d = l.map fun e => (e.1.1, e.2.1)) (hz : l.all (fun e => decide (e.2.1.length ≤ 100)) = true) (hO : O a = none) (hs : (a == sysModules) = false) : Rep w h O (.dct d) (.ref a) := by
  subst hd
  refine ⟨a, rfl, hO, hs, fun k => findBy Value.isStrOf es k, mapOf_K (prog := pg) X hl (he ▸ keysLit_tab _ _), fun k => ?_⟩
  have e1 : findBy Value.isStrOf es (S k) = (l.find? fun e => e.1.1 == k).map fun e => .str (S e.2.1) e.2.2 := by
    rw [← tab_find w.params k l, ← he]
    obtain ⟨es⟩ := es
    simp [findBy, List.find?_toArray]
  have e2 : look (l.map fun e => (e.1.1, e.2.1)) k = (l.find? fun e => e.1.1 == k).map (·.2.1) := by
    unfold look
    rw [List.find?_map, Option.map_map]
    rfl
  dsimp only
  rw [show findBy Value.isStrOf es ⟨k.toArray⟩ = _ from e1, e2]
  cases q : l.find? fun e => e.1.1 == k with
  | none => rfl
  | some e =>
    have := List.all_eq_true.mp hz e (List.mem_of_find?_eq_some q)
    exact ⟨Nat.le_trans (of_decide_eq_true this) (by decide), e.2.2, rfl⟩
noncomputable def closersT : List ((List Nat × Nat) × (List Nat × Nat)) := [(([40], 246), ([41], 247)), (([91], 248), ([93], 249)), (([123], 250), ([125], 251)), (([60], 252), ([62], 253))]
noncomputable def shortsT : List ((List Nat × Nat) × (List Nat × Nat)) := [(([110], 259), ([10], 260)), (([116], 261), ([9], 262)), (([114], 263), ([13], 264)), (([102], 265), ([12], 266)), (([98], 267), ([8], 268)), (([97], 269), ([7], 270)), (([101], 271), ([27], 272))]

noncomputable def Gl.v : Gl → Value
  | .CLOSERS => .ref 54
  | .SHORT_ESCAPES => .ref 55
  | .CODE_FIGURES => .str (S [48, 49, 50, 51, 52, 53, 54, 55, 56, 57, 97, 98, 99, 100, 101, 102]) 281
  | .TOP_CODE => .int 1114111 283
  | .SHORT_CASES => .str (S [117, 108]) 447
  | .LAW_PLAIN => .str (S [97, 66, 48, 32, 95, 46, 59, 10]) 646
theorem mem_of_any {α : Type} [DecidableEq α] {l : List α} {x : α} (i : Nat) (h : l[i]? = some x) : x ∈ l := List.mem_of_getElem? h
theorem gl_mem (g : Gl) : (g.name, g.v) ∈ globRows := by
  cases g
  · exact List.mem_of_getElem? (i := 38) rfl
  · exact List.mem_of_getElem? (i := 39) rfl
  · exact List.mem_of_getElem? (i := 40) rfl
  · exact List.mem_of_getElem? (i := 41) rfl
  · exact List.mem_of_getElem? (i := 42) rfl
  · exact List.mem_of_getElem? (i := 43) rfl
theorem K_keys (P : Params) : (K P).lookup 54 = some ⟨.type "dict", none, .dict (tabEs P closersT).toArray 4, #[]⟩ := by kernel_rfl
theorem K_keys' (P : Params) : (K P).lookup 55 = some ⟨.type "dict", none, .dict (tabEs P shortsT).toArray 7, #[]⟩ := by kernel_rfl
theorem gl_rep {c : Cx} {O : MH} {s : Shared} (i : Inv c O s) (g : Gl) : Rep c.w s.heap O g.val g.v := by
  have X := i.base.k
  cases g
  · exact tab_rep (l := closersT) (X.keeps i.stay) (K_keys _) (by simp) rfl rfl (i.apart _ _ (X _ _ (K_keys _))) rfl
  · exact tab_rep (l := shortsT) (X.keeps i.stay) (K_keys' _) (by simp) rfl rfl (i.apart _ _ (X _ _ (K_keys' _))) rfl
  · exact ⟨by decide, _, rfl⟩
  · exact ⟨_, rfl⟩
  · exact ⟨by decide, _, rfl⟩
  · exact ⟨by decide, _, rfl⟩
theorem fn_mem (f : Fn) : (f.name, Value.ref f.addr) ∈ globRows := by
  have h : globRows[f.row]? = some (f.name, Value.ref f.addr) := by cases f <;> rfl
  exact List.mem_of_getElem? h
noncomputable def Fn.idx (f : Fn) : Nat := (fnRows.getD f.row (0, 0, .none)).1
noncomputable def Fn.pm (f : Fn) : Value := (fnRows.getD f.row (0, 0, .none)).2.2
theorem fn_K (P : Params) (f : Fn) : (K P).lookup f.addr = some (fnAt f.idx f.addr f.pm) := by cases f <;> kernel_rfl
theorem fn_code (f : Fn) : (f.addr - 1, f.name) ∈ codeRows := by
  have h : codeRows[f.row]? = some (f.addr - 1, f.name) := by cases f <;> rfl
  exact List.mem_of_getElem? h
theorem fn_at {c : Cx} {O : MH} {s : Shared} (i : Inv c O s) (f : Fn) : s.heap.get? f.addr = some (fnAt f.idx f.addr f.pm) := i.stay _ _ (i.base.k _ _ (fn_K _ f))
end Mine
end
section
open PySem PySem.W PySem.Calls PyProof.Rows
set_option Elab.async false
set_option maxRecDepth 100000
set_option linter.all false
namespace Mine
noncomputable abbrev lineS : Str := S [108, 105, 110, 101]
theorem ns_lookIn {o : Obj} {es : Array DictEntry} {ep : Nat} {m : Str → Option Value} {x : Str} {v : Value} (hd : o.data = .dict es ep) (hf : ∀ name, nsFind es name = m name) (hv : m x = some v) : lookIn x o = some (some v) := by
  have h := hf x
  rw [hv] at h
  unfold nsFind findBy at h
  unfold lookIn
  rw [hd]
  dsimp only
  rw [Array.find?_toList]
  obtain ⟨en, h1, h2⟩ := Option.map_eq_some_iff.mp h
  rw [h1]
  exact congrArg (fun z => some (some z)) h2
theorem exc_kind : builtinKind "BaseException.__getattribute__" = some .slot := by decide +kernel
theorem exc_split : splitId "BaseException.__getattribute__" = some ("BaseException", "__getattribute__") := by decide +kernel
section
variable {c : Cx} {A : Around}
theorem getLine {O : MH} {s : Shared} {line : Int} {x : Value} (i : Inv c O s) (r : Rep c.w s.heap O (.die line) x) {Q : Value → Shared → Prop} {E : Value → Shared → Prop}
    (q : ∀ y s', Pure s s' → Rep c.w s'.heap O (.int line) y → Q y s') : wpAny (model pg c.w) A (getAttr x (S [108, 105, 110, 101]) true) Q E s := by
  obtain ⟨e, dx, rfl, hn, hn2, oe, vs, m, t, ho, hc, hd, hdt, hns, hm⟩ := r
  obtain ⟨od, es, ep, hod, hdata, hk, hfind⟩ := hns
  have X : (K c.w.params).In s.heap := i.base.k.keeps i.stay
  have I : PySem.W.InstAt s.heap e oe 51 (some od) := ⟨ho, hc, by unfold notCls; rw [hdt], by rw [hd]; exact hod⟩
  have hl : lookIn lineS od = some (some (.int line t)) := ns_lookIn hdata hfind hm
  have hf : findObj (K c.w.params) 51 (some od) lineS = some (.value (.int line t)) := findObj_own (attr := none) (by kernel_rfl) (by kernel_rfl) rfl hl
  have fin : Q (.int line t) { s with toks := s.toks + 1 } := q _ _ (.toks _ _) ⟨t, rfl⟩
  clear q
  obtain ⟨h, g, d, tk, os⟩ := s
  have L0 := I.type (M := model pg c.w)
  have L1 := looks_findIn (M := model pg c.w) (t := .ref 51) (name := "__getattribute__") (r := some (.builtin "BaseException.__getattribute__")) X (by kernel_rfl)
  have L2 := looks_findIn (M := model pg c.w) (t := .ref 51) (name := "__getattr__") (r := none) X (by kernel_rfl)
  have L3 := looks_find (M := model pg c.w) X I hf
  have sub : Looks (model pg c.w) h (isInstance (.ref e) (.type "BaseException")) true := L0.andThen (looks_mroIn X (by kernel_rfl))
  unfold getAttr getAttrBy
  refine wpAny_bind (wpAny_mkText (wpAny_holding (wpAny_bind (L0.at (wpAny_bind (L1.at ?_))))))
  show wpAny _ _ (getAttrByItsOwn _ _ _ _ _ _) _ _ _
  unfold getAttrByItsOwn
  refine wpAny_bind (L2.at ?_)
  refine wpAny_bind (wpAny_attempt (wpAny_holding ?_))
  show wpAny _ _ (boundAndCalled _ _ _) _ _ _
  unfold boundAndCalled
  rw [PySem.F.attrBase_Exception.ga.bind]
  refine wpAny_bind (wpAny_pure (wpAny_call (codeAny_call_builtin PySem.F.attrBase_Exception.ga.plain PySem.F.entry_bexc_ga
    (@check_slot (model pg c.w) _ _ _ "BaseException.__getattribute__" "BaseException" "__getattribute__" (.ref e) [_] [] _ exc_kind exc_split sub (PySem.F.args_bexc_ga _ _) ?_))))
  refine wpAny_bind (wpAny_pure (wpAny_bind (wpAny_pure (wpAny_bind (L0.at (wpAny_bind (L3.at (wpAny_pure ?_)))))))) 
  show wpAny _ _ (handedOut (.int line t)) _ _ _
  exact wpAny_pure fin
end
end Mine
end
section
open PySem PySem.W PySem.Calls PyProof.Rows
set_option Elab.async false
set_option maxRecDepth 4000
set_option linter.all false
namespace Mine
section
variable {n : Nat} {C : CallP} {c : Cx} {A : Around} {env : Env} {N : Nat → Str} {L : Addr} {k : Nat} {σ : List V}

theorem Val.mono {s : Shared} {O : MH} {K K' : V → MH → Prop} (h : ∀ v O, K v O → K' v O) {x : Value} {s' : Shared} (f : Val c s O K x s') : Val c s O K' x s' := by
  obtain ⟨v, O', a, b, d⟩ := f
  exact ⟨v, O', a, b, h _ _ d⟩
theorem Act.glob (act : Act n c A env N L k) {O : MH} {s : Shared} (i : Inv c O s) {x : Str} {v : Value} (h : isGlob env.kindOf x = true) (hm : (x, v) ∈ globRows) {pos : Pos} {Q : Value → Shared → Prop} {E : Value → Shared → Prop} (q : Q v s) :
    wpAny (model pg c.w) A (eval (.Name x pos) env) Q E s := by
  obtain ⟨name, scope, a, cd, he, hk⟩ := act.shape
  unfold isGlob at h
  simp only [Bool.and_eq_true] at h
  obtain ⟨h1, h2⟩ := h
  have hx : env.kindOf x = some .globalImplicit := by
    revert h1
    cases env.kindOf x with
    | none => intro h; cases h
    | some kd => cases kd <;> first | (intro _; rfl) | (intro h; cases h)
  obtain ⟨mg, g1, g2, _⟩ := i.base.glob
  have hd : (x == ("__debug__" : Str)) = false := by simpa using h2
  subst he
  exact Calls.Name_function_global hk hx (Calls.loadGlobal_global (env := envOf name scope L a cd) (g1.keeps i.stay) (g2 _ hm) q) hd
theorem Act.blt (act : Act n c A env N L k) {O : MH} {s : Shared} (i : Inv c O s) {x : Str} {v : Value} (h : isGlob env.kindOf x = true) (ha : x ∈ absentRows) (hm : (x, v) ∈ bltRows) {pos : Pos} {Q : Value → Shared → Prop} {E : Value → Shared → Prop} (q : Q v s) :
    wpAny (model pg c.w) A (eval (.Name x pos) env) Q E s := by
  obtain ⟨name, scope, a, cd, he, hk⟩ := act.shape
  unfold isGlob at h
  simp only [Bool.and_eq_true] at h
  obtain ⟨h1, h2⟩ := h
  have hx : env.kindOf x = some .globalImplicit := by
    revert h1
    cases env.kindOf x with
    | none => intro h; cases h
    | some kd => cases kd <;> first | (intro _; rfl) | (intro h; cases h)
  obtain ⟨mg, g1, _, g3⟩ := i.base.glob
  obtain ⟨mb, b1, b2⟩ := i.base.blt
  have hd : (x == ("__debug__" : Str)) = false := by simpa using h2
  subst he
  exact Calls.Name_function_global hk hx (Calls.loadGlobal_builtin (env := envOf name scope L a cd) (g1.keeps i.stay) (g3 _ ha) (b1.keeps i.stay) (b2 _ hm) q) hd
theorem Act.local (act : Act n c A env N L k) {O : MH} {s : Shared} (g : Good c N L σ O s) (hk : σ.length = k) {i : Nat} (hi : (gv σ i).isDef = true) {Q : Value → Shared → Prop} {E : Value → Shared → Prop} (q : ∀ x, Rep c.w s.heap O (gv σ i) x → Q x s) :
    wpAny (model pg c.w) A (loadName env (N i)) Q E s := by
  obtain ⟨name, scope, a, cd, he, hkd⟩ := act.shape
  obtain ⟨m, h1, h2⟩ := g.locs
  have hlt := gv_lt hi
  have := h2 i hlt
  rw [if_pos hi] at this
  obtain ⟨x, h3, h4⟩ := this
  obtain ⟨h5, h6⟩ := act.loc i (by omega)
  subst he
  exact wpAny_loadName_local (env := envOf name scope L a cd) hkd h5 h1 h3 (q x h4)

theorem nilStr : ("range" : Str) = S [114, 97, 110, 103, 101] := by decide +kernel
theorem bf_mem (f : Bf) : f.str ∈ absentRows ∧ (f.str, Value.builtin f.name) ∈ bltRows := by
  cases f
  · exact ⟨List.mem_of_getElem? (i := 0) rfl, List.mem_of_getElem? (i := 0) rfl⟩
  · exact ⟨List.mem_of_getElem? (i := 1) rfl, List.mem_of_getElem? (i := 1) rfl⟩
  · exact ⟨List.mem_of_getElem? (i := 2) rfl, List.mem_of_getElem? (i := 2) rfl⟩
theorem rng_mem : S [114, 97, 110, 103, 101] ∈ absentRows ∧ (S [114, 97, 110, 103, 101], Value.type "range") ∈ bltRows :=
  ⟨List.mem_of_getElem? (i := 3) rfl, List.mem_of_getElem? (i := 3) rfl⟩

theorem bf_ok {O : MH} {s : Shared} (i : Inv c O s) {f : Bf} {v : V} {x : Value} {K : V → Prop} (r : Rep c.w s.heap O v x) (h : bfP O f v K) :
    Gv c.w A s (PySem.call (.builtin f.name) [x]) fun h' r => ∃ v, Rep c.w h' O v r ∧ K v := by
  intro Q E q
  cases f with
  | len =>
    cases v with
    | str x' =>
      obtain ⟨hx, t, rfl⟩ := r
      rw [SZ_eq] at hx
      refine PyProof.Rows.len_str (by rw [str_len]; omega) (q _ _ (.toks _ _) ⟨.int x'.length, ⟨s.toks + 1, ?_⟩, h⟩)
      · rw [str_len]
    | fl l =>
      obtain ⟨a, xs, rfl, hl, _, hs, hr⟩ := r
      rw [SZ_eq] at hs
      have e := hr.length
      refine PyProof.Rows.len_list hl (by rw [List.size_toArray]; omega) (q _ _ (.toks _ _) ⟨.int l.length, ⟨s.toks + 1, ?_⟩, h⟩)
      · rw [List.size_toArray, e]
    | lst a =>
      obtain ⟨l, hl, hk⟩ := h
      obtain rfl : x = .ref a := r
      obtain ⟨xs, hp, hs, hr⟩ := i.lists _ _ hl
      rw [SZ_eq] at hs
      have e := hr.length
      refine PyProof.Rows.len_list hp.isList (by rw [List.size_toArray]; omega) (q _ _ (.toks _ _) ⟨.int l.length, ⟨s.toks + 1, ?_⟩, hk⟩)
      · rw [List.size_toArray, e]
    | _ => exact h.elim
  | chr =>
    cases v with
    | int j =>
      obtain ⟨t, rfl⟩ := r
      exact PyProof.Rows.chr_of_range h.1 h.2.1 (q _ _ (.toks _ _) ⟨.str [j.toNat], ⟨by rw [SZ_eq]; simp, _, rfl⟩, h.2.2⟩)
    | _ => exact h.elim
  | ord =>
    cases v with
    | str x' =>
      rcases x' with _ | ⟨ch, _ | ⟨c2, x'⟩⟩
      · exact h.elim
      · obtain ⟨_, t, rfl⟩ := r
        exact PyProof.Rows.ord_of_one rfl (q _ _ (.toks _ _) ⟨.int ch, ⟨_, rfl⟩, h⟩)
      · exact h.elim
    | _ => exact h.elim

theorem newListO {O : MH} {s : Shared} (i : Inv c O s) {vs : List V} {xs : List Value} (hz : vs.length ≤ SZ) (r : Reps c.w s.heap O vs xs) :
    Next c s O { s with heap := s.heap.push { cls := .type "list", data := .seq xs.toArray } } (upd O s.heap.objs.size (.list vs)) :=
  i.own (xs := xs) (.heap (fun _ _ e => Heap.get?_push_of_some _ e) _) (size_none _) ⟨_, 0, Heap.get?_push_size _ rfl, rfl, rfl, rfl⟩ hz r
theorem push_pure (s : Shared) (o : Obj) : Pure s { s with heap := s.heap.push o } := .heap (fun _ _ e => Heap.get?_push_of_some _ e) s.toks

theorem emb_plain (N : Nat → Str) (env : Env) (pos : Pos) : ∀ xs : Xs, (backTo pos (starEach (xs.emb N) env)).any (·.1) = false
  | .nil => rfl
  | .cons x xs => by
    have := emb_star N env xs x
    rw [show (Xs.cons x xs).emb N = x.emb N :: xs.emb N from rfl, this]
    exact emb_plain N env pos xs
theorem emb_len (N : Nat → Str) : ∀ xs : Xs, (xs.emb N).length = xs.len
  | .nil => rfl
  | .cons x xs => by show (xs.emb N).length + 1 = xs.len + 1; rw [emb_len N xs]
theorem emb_few (N : Nat → Str) (env : Env) (pos : Pos) (xs : Xs) (h : xs.len < 10) : ((backTo pos (starEach (xs.emb N) env)).all (fun x => !x.1) && (backToKw pos (keywordEach [] env)).all (fun x => x.1.isSome)
      && decide ((xs.emb N).length + ([] : List Keyword).length + (if ([] : List Keyword).isEmpty then 0 else 1) < 30)) = true := by
  have h1 : (backTo pos (starEach (xs.emb N) env)).all (fun x => !x.1) = true := by
    have := emb_plain N env pos xs
    rw [List.any_eq_false] at this
    rw [List.all_eq_true]
    intro x hx
    simpa using this x hx
  rw [h1, emb_len]
  simp [backToKw, keywordEach]
  omega

/- a dict display of written texts -/
noncomputable def pairsOf (env : Env) (p : Pos) (l : List ((List Nat × Pos) × (List Nat × Pos))) : List (Sem Value × Sem Value) :=
  l.map fun e => (eval (.Constant (.str (S e.1.1)) 0 e.1.2) env, do let x ← eval (.Constant (.str (S e.2.1)) 0 e.2.2) env; standAt p; pure x)
noncomputable def PairsAt : List ((List Nat × Pos) × (List Nat × Pos)) → List (Value × Value) → Prop
  | [], [] => True
  | e :: l, (a, b) :: vs => (∃ t, a = .str (S e.1.1) t) ∧ (∃ t, b = .str (S e.2.1) t) ∧ PairsAt l vs
  | _, _ => False
theorem pairs_ev {s : Shared} {p : Pos} {E : Value → Shared → Prop} : ∀ (l : List ((List Nat × Pos) × (List Nat × Pos))) (tk : Nat) (Q : List (Value × Value) → Shared → Prop), (∀ vs tk, PairsAt l vs → Q vs { s with toks := tk }) →
    wpAny (model pg c.w) A (evalPairs (pairsOf env p l)) Q E { s with toks := tk }
  | [], tk, Q, q => evalPairs_nil (q [] tk trivial)
  | e :: l, tk, Q, q => evalPairs_cons (wpAny_Constant_str (wpAny_bind (wpAny_Constant_str (wpAny_bind (wpAny_standAt (wpAny_pure (pairs_ev l _ _ fun vs tk hv => q _ tk ⟨⟨_, rfl⟩, ⟨_, rfl⟩, hv⟩)))))))
theorem pairs_at {w : World} : ∀ {l : List ((List Nat × Pos) × (List Nat × Pos))} {vs : List (Value × Value)}, PairsAt l vs → ∃ kvs : List (Str × Value), Carries (strKind pg w) vs kvs ∧ kvs.map (·.1) = l.map (fun e => S e.1.1) ∧
      ∀ k, match (l.find? fun e => e.1.1 == k) with | some e => ∃ t, valueAt kvs (S k) = some (.str (S e.2.1) t) | none => valueAt kvs (S k) = none
  | [], [], _ => ⟨[], trivial, rfl, fun _ => rfl⟩
  | e :: l, (a, b) :: vs, h => by
    obtain ⟨⟨t, rfl⟩, ⟨u, rfl⟩, h⟩ := h
    obtain ⟨kvs, h1, h2, h3⟩ := pairs_at (w := w) h
    refine ⟨(S e.1.1, .str (S e.2.1) u) :: kvs, ⟨strKind_is pg w _ t, rfl, h1⟩, by simp [h2], fun k => ?_⟩
    rw [List.find?_cons]
    have e1 : valueAt ((S e.1.1, Value.str (S e.2.1) u) :: kvs) (S k) = if e.1.1 = k then some (.str (S e.2.1) u) else valueAt kvs (S k) := by
      unfold valueAt
      rw [List.find?_cons]
      have : (decide (S e.1.1 = S k)) = decide (e.1.1 = k) := by
        have := str_inj e.1.1 k
        rw [Bool.eq_iff_iff] at this ⊢
        simpa [S] using this
      dsimp only
      rw [this]
      by_cases q : e.1.1 = k
      · rw [decide_eq_true q, if_pos q]; rfl
      · rw [decide_eq_false q, if_neg q]
    by_cases q : e.1.1 = k
    · rw [beq_iff_eq.mpr q]
      exact ⟨u, by rw [e1, if_pos q]⟩
    · rw [beq_eq_false_iff_ne.mpr q, e1, if_neg q]
      exact h3 k
  | [], _ :: _, h => h.elim
  | _ :: _, [], h => h.elim
theorem dict_shape (env : Env) (p : Pos) : ∀ l : List ((List Nat × Pos) × (List Nat × Pos)), (evalEachOpt (l.map fun e => some (.Constant (.str (S e.1.1)) 0 e.1.2)) env).zip ((evalEach (l.map fun e => .Constant (.str (S e.2.1)) 0 e.2.2) env).map fun v => do let x ← v; standAt p; pure x) = (pairsOf env p l).map fun p => (some p.1, p.2)
  | [] => rfl
  | e :: l => congrArg (_ :: ·) (dict_shape env p l)
theorem dict_ok {O : MH} {s : Shared} {l : List ((List Nat × Pos) × (List Nat × Pos))} {p : Pos} {K : V → MH → Prop} {E : Value → Shared → Prop} (i : Inv c O s) (h : dictOk (dictL l) = true) (hk : K (.dct (dictL l)) O) :
    wpAny (model pg c.w) A (eval ((X.dict l p).emb N) env) (Val c s O K) E s := by
  unfold dictOk at h
  simp only [Bool.and_eq_true, decide_eq_true_eq, List.all_eq_true] at h
  obtain ⟨⟨⟨h1, h2⟩, h3⟩, h4⟩ := h
  refine wpAny_Dict_pairs (knd := strKind pg c.w) (dict_shape env p l) (by intro e; unfold pairsOf at e; cases l with | nil => cases h4 | cons _ _ => cases e) (by unfold pairsOf; rw [List.length_map]; unfold dictL at h3; simpa using h3) ?_
  refine pairs_ev (s := { s with heap := s.heap.push { cls := .type "dict", data := .dict #[] } }) l s.toks _ fun vs tk hv => ?_
  obtain ⟨kvs, q1, q2, q3⟩ := pairs_at (w := c.w) hv
  refine ⟨kvs, q1, Heap.DictOf.new .., fun h' hd hs => ?_⟩
  · have kp : ∀ b o, s.heap.get? b = some o → h'.get? b = some o := fun b o e => (hs.2 b (by rintro rfl; rw [size_none] at e; cases e)).trans (Heap.get?_push_of_some _ e)
    have hnd : (kvs.map (·.1)).Nodup := by
      rw [q2]
      unfold dictL at h1
      rw [List.map_map] at h1
      unfold List.Nodup at h1 ⊢
      rw [List.pairwise_map] at h1 ⊢
      refine h1.imp fun hne e => hne ?_
      have := str_inj _ _ ▸ beq_iff_eq.mpr e
      exact beq_iff_eq.mp this
    rw [merged_nil_of_nodup _ hnd] at hd
    refine ⟨.dct (dictL l), O, i.pure (.heap kp _), ⟨_, rfl, i.fresh (size_none _), ?_, _, hd.mapOf, fun k => ?_⟩, hk⟩
    · have := modules_low (i.base.lim.keeps i.stay)
      exact beq_eq_false_iff_ne.mpr (Nat.ne_of_gt this)
    · have e2 : look (dictL l) k = (l.find? fun e => e.1.1 == k).map (·.2.1) := by
        unfold look dictL
        rw [List.find?_map, Option.map_map]
        rfl
      have := q3 k
      rw [e2]
      cases q : l.find? fun e => e.1.1 == k with
      | none => rw [q] at this; exact this
      | some e =>
        rw [q] at this
        have hz := h2 (e.1.1, e.2.1) (List.mem_map.mpr ⟨e, List.mem_of_find?_eq_some q, rfl⟩)
        exact ⟨Nat.le_trans hz (by decide), this⟩

noncomputable abbrev EvOk (C : CallP) (c : Cx) (A : Around) (env : Env) (N : Nat → Str) (L : Addr) (σ : List V) (x : X) : Prop :=
  ∀ (O : MH) (s : Shared) (K : V → MH → Prop) (E : Int → MH → Prop), Good c N L σ O s → we C σ x O K E → wpAny (model pg c.w) A (eval (x.emb N) env) (Val c s O K) (Fly c .out s O E) s
noncomputable abbrev EvsOk (C : CallP) (c : Cx) (A : Around) (env : Env) (N : Nat → Str) (L : Addr) (σ : List V) (xs : Xs) : Prop :=
  ∀ (O : MH) (s : Shared) (pos : Pos) (K : List V → MH → Prop) (E : Int → MH → Prop), Good c N L σ O s → wes C σ xs O K E →
    wpAny (model pg c.w) A (spliced (backTo pos (starEach (xs.emb N) env))) (fun ys s' => ∃ vs O', Next c s O s' O' ∧ Reps c.w s'.heap O' vs ys ∧ vs.length = xs.len ∧ K vs O') (Fly c .out s O E) s

/-- the usual step: first a subexpression, then the rest from where it stands -/
theorem then_ {O : MH} {s : Shared} {x : X} {K : V → MH → Prop} {E : Int → MH → Prop} {Q : Value → Shared → Prop} (hx : EvOk C c A env N L σ x) (g : Good c N L σ O s) (h : we C σ x O K E)
    (q : ∀ y s₁ v O₁, Next c s O s₁ O₁ → Rep c.w s₁.heap O₁ v y → Good c N L σ O₁ s₁ → K v O₁ → Q y s₁) : wpAny (model pg c.w) A (eval (x.emb N) env) Q (Fly c .out s O E) s :=
  wpAny_mono (hx O s K E g h) (fun y s₁ ⟨v, O₁, n, r, k⟩ => q y s₁ v O₁ n r (g.next n) k) fun _ _ f => f
theorem rest_ {α : Type} {O O₁ : MH} {s s₁ : Shared} {E : Int → MH → Prop} {t : Sem α} {Q Q' : α → Shared → Prop} (n : Next c s O s₁ O₁) (h : wpAny (model pg c.w) A t Q' (Fly c .out s₁ O₁ E) s₁) (q : ∀ a s', Q' a s' → Q a s') :
    wpAny (model pg c.w) A t Q (Fly c .out s O E) s₁ := wpAny_mono h q fun _ _ f => f.from n
theorem gv_ok {O O₁ : MH} {s s₁ : Shared} {K : V → MH → Prop} {E : Value → Shared → Prop} {t : Sem Value} {K' : V → Prop} (nx : Next c s O s₁ O₁) (h : Gv c.w A s₁ t fun h' r => ∃ v, Rep c.w h' O₁ v r ∧ K' v) (hk : ∀ v, K' v → K v O₁) :
    wpAny (model pg c.w) A t (Val c s O K) E s₁ := h _ _ fun _ _ p ⟨v, hr, hv⟩ => ⟨v, O₁, nx.trans (nx.inv.pure p), hr, hk v hv⟩
theorem gb_ok {O O₁ : MH} {s s₁ : Shared} {E : Value → Shared → Prop} {t : Sem Value} {K' : Bool → Prop} {Q : Value → Shared → Prop} (nx : Next c s O s₁ O₁) (h : Gv c.w A s₁ t fun _ r => ∃ b, r = .bool b ∧ K' b)
    (q : ∀ b s', Next c s O s' O₁ → K' b → Q (.bool b) s') : wpAny (model pg c.w) A t Q E s₁ := h _ _ fun _ s' p ⟨b, e, hb⟩ => e ▸ q b s' (nx.trans (nx.inv.pure p)) hb

theorem asB_elim {w : World} {h : Heap} {O : MH} {v : V} {x : Value} {K : Bool → Prop} (r : Rep w h O v x) (a : asB v K) : ∃ b, v = .bool b ∧ x = .bool b ∧ K b := by
  cases v with
  | bool b => exact ⟨b, rfl, r, a⟩
  | _ => exact a.elim
theorem asI_elim {w : World} {h : Heap} {O : MH} {v : V} {x : Value} {K : Int → Prop} (r : Rep w h O v x) (a : asI v K) : ∃ i t, v = .int i ∧ x = .int i t ∧ K i := by
  cases v with
  | int i => obtain ⟨t, e⟩ := r; exact ⟨i, t, rfl, e, a⟩
  | _ => exact a.elim

theorem cunits (act : Act n c A env N L k) : A.units < cLine := by have := act.ok.units; omega
noncomputable abbrev TstOk (C : CallP) (c : Cx) (A : Around) (env : Env) (N : Nat → Str) (L : Addr) (σ : List V) (x : X) : Prop :=
  ∀ (O : MH) (s : Shared) (K : Bool → MH → Prop) (E : Int → MH → Prop), Good c N L σ O s → we C σ x O (fun v O₁ => asB v fun b => K b O₁) E →
    wpAny (model pg c.w) A (isTrue (x.emb N) env (eval (x.emb N) env)) (fun b s' => ∃ O', Next c s O s' O' ∧ K b O') (Fly c .out s O E) s
noncomputable abbrev Ev2 (C : CallP) (c : Cx) (A : Around) (env : Env) (N : Nat → Str) (L : Addr) (σ : List V) (x : X) : Prop := EvOk C c A env N L σ x ∧ TstOk C c A env N L σ x
theorem tv {x : X} (he : ∀ (env : Env) (w : Sem Value), isTrue (x.emb N) env w = (do let v ← w; standAt (x.emb N).pos; holding [v] (truthy v))) (ev : EvOk C c A env N L σ x) : Ev2 C c A env N L σ x :=
  ⟨ev, fun O s K E g h => wpAny_isTrue_value (then_ ev g h fun y s₁ v O₁ n₁ r₁ g₁ h₁ => by
    obtain ⟨b, rfl, rfl, hb⟩ := asB_elim r₁ h₁
    exact wpAny_truthy_bool ⟨O₁, n₁, hb⟩) (he env _)⟩
theorem wf_and {a b : Bool} (h : (a && b) = true) : a = true ∧ b = true := Bool.and_eq_true_iff.mp h
theorem cmp_ev {a b : X} (o : CmpOp) (p : Pos) (ha : EvOk C c A env N L σ a) (hb : EvOk C c A env N L σ b) (act : Act n c A env N L k) : EvOk C c A env N L σ (.cmp o a b p) := fun O s K E g h => by
  simp only [we] at h
  refine wpAny_Compare1 (then_ ha g h fun y s₁ va O₁ n₁ r₁ g₁ h₁ => rest_ n₁ (then_ hb g₁ h₁ fun z s₂ vb O₂ n₂ r₂ g₂ h₂ => ?_) fun _ _ q => q) (emb_marks o)
  exact gb_ok (n₁.trans n₂) (cmpQ_ok g₂.inv (cunits act) (n₂.rep r₁) r₂ h₂) fun b s' nx hb => ⟨.bool b, O₂, nx, rfl, hb⟩
theorem cmp_tst {a b : X} (o : CmpOp) (p : Pos) (ha : EvOk C c A env N L σ a) (hb : EvOk C c A env N L σ b) (act : Act n c A env N L k) : TstOk C c A env N L σ (.cmp o a b p) := fun O s K E g h => by
  simp only [we] at h
  refine wpAny_isTrue_Compare1 (then_ ha g h fun y s₁ va O₁ n₁ r₁ g₁ h₁ => rest_ n₁ (then_ hb g₁ h₁ fun z s₂ vb O₂ n₂ r₂ g₂ h₂ => ?_) fun _ _ q => q) (emb_marks o)
  exact gb_ok (n₁.trans n₂) (cmpQ_ok g₂.inv (cunits act) (n₂.rep r₁) r₂ h₂) fun b s' nx hb => wpAny_truthy_bool ⟨O₂, nx, hb⟩
theorem emb_last {b d : X} (o o' : CmpOp) : lastMarks [o, o'] [b.emb N, d.emb N] = false := emb_marks o'
theorem cmp2_ev {a b d : X} (o o' : CmpOp) (p : Pos) (ha : EvOk C c A env N L σ a) (hb : EvOk C c A env N L σ b) (hd : EvOk C c A env N L σ d) (act : Act n c A env N L k) : EvOk C c A env N L σ (.cmp2 o o' a b d p) := fun O s K E g h => by
  simp only [we] at h
  refine Compare_chain (then_ ha g h fun y s₁ va O₁ n₁ r₁ g₁ h₁ => chain_link (rest_ n₁ (then_ hb g₁ h₁ fun z s₂ vb O₂ n₂ r₂ g₂ h₂ => ?_) fun _ _ q => q)) (emb_last o o')
  refine gb_ok (Next.refl g₂.inv) (cmpQ_ok g₂.inv (cunits act) (n₂.rep r₁) r₂ h₂) fun b' s' nx hb => wpAny_truthy_bool ?_
  have n₃ := (n₁.trans n₂).trans nx
  cases b' with
  | false => exact ⟨.bool false, O₂, n₃, rfl, hb⟩
  | true =>
    refine chain_last (rest_ n₃ (then_ hd (g₂.next nx) hb fun u s₄ vd O₄ n₄ r₄ g₄ h₄ => ?_) fun _ _ q => q)
    exact gb_ok (n₃.trans n₄) (cmpQ_ok g₄.inv (cunits act) (n₄.rep (nx.rep r₂)) r₄ h₄) fun b s' nx hb => ⟨.bool b, O₄, nx, rfl, hb⟩
theorem cmp2_tst {a b d : X} (o o' : CmpOp) (p : Pos) (ha : EvOk C c A env N L σ a) (hb : EvOk C c A env N L σ b) (hd : EvOk C c A env N L σ d) (act : Act n c A env N L k) : TstOk C c A env N L σ (.cmp2 o o' a b d p) := fun O s K E g h => by
  simp only [we] at h
  refine isTrue_chain (then_ ha g h fun y s₁ va O₁ n₁ r₁ g₁ h₁ => test_link (rest_ n₁ (then_ hb g₁ h₁ fun z s₂ vb O₂ n₂ r₂ g₂ h₂ => ?_) fun _ _ q => q)) (emb_last o o')
  refine gb_ok (Next.refl g₂.inv) (cmpQ_ok g₂.inv (cunits act) (n₂.rep r₁) r₂ h₂) fun b' s' nx hb => wpAny_truthy_bool ?_
  have n₃ := (n₁.trans n₂).trans nx
  cases b' with
  | false => exact ⟨O₂, n₃, hb⟩
  | true =>
    refine test_last (rest_ n₃ (then_ hd (g₂.next nx) hb fun u s₄ vd O₄ n₄ r₄ g₄ h₄ => ?_) fun _ _ q => q)
    exact gb_ok (n₃.trans n₄) (cmpQ_ok g₄.inv (cunits act) (n₄.rep (nx.rep r₂)) r₄ h₄) fun b s' nx hb => wpAny_truthy_bool ⟨O₄, nx, hb⟩
variable (hC : CallsAt c A C) (act : Act n c A env N L k) (hk : σ.length = k)
include hC act hk
set_option maxHeartbeats 1000000


mutual
theorem we_ok : ∀ (x : X), x.wf env.kindOf k = true → Ev2 C c A env N L σ x
  | .none p, _ => tv (fun _ _ => rfl) <| fun O s K E g h => wpAny_Constant_none ⟨.none, O, .refl g.inv, rfl, by simpa only [we] using h⟩
  | .bool b p, _ => tv (fun _ _ => rfl) <| fun O s K E g h => wpAny_Constant_bool ⟨.bool b, O, .refl g.inv, rfl, by simpa only [we] using h⟩
  | .int i p, _ => tv (fun _ _ => rfl) <| fun O s K E g h => wpAny_Constant_int ⟨.int i, O, g.inv.pure (.toks _ _), ⟨_, rfl⟩, by simpa only [we] using h⟩
  | .str x p, w => tv (fun _ _ => rfl) <| fun O s K E g h => by
    simp only [we] at h
    simp only [X.wf, decide_eq_true_eq] at w
    exact wpAny_Constant_str ⟨.str x, O, g.inv.pure (.toks _ _), ⟨Nat.le_trans w (by decide), _, rfl⟩, h⟩
  | .loc i p, w => tv (fun _ _ => rfl) <| fun O s K E g h => by
    simp only [we] at h
    replace h := onDef_ok h
    simp only [X.wf, decide_eq_true_eq] at w
    exact wpAny_Name (act.local g hk h.1 fun x r => ⟨gv σ i, O, .refl g.inv, r, h.2⟩) (act.loc i w).2
  | .gl gg p, w => tv (fun _ _ => rfl) <| fun O s K E g h => by
    simp only [we] at h
    exact act.glob g.inv w (gl_mem gg) ⟨gg.val, O, .refl g.inv, gl_rep g.inv gg, h⟩
  | .bin o a b p, w => tv (fun _ _ => rfl) <| fun O s K E g h => by
    simp only [we] at h
    simp only [X.wf, Bool.and_eq_true] at w
    refine wpAny_BinOp (then_ (we_ok a w.1).1 g h fun y s₁ va O₁ n₁ r₁ g₁ h₁ => rest_ n₁ (then_ (we_ok b w.2).1 g₁ h₁ fun z s₂ vb O₂ n₂ r₂ g₂ h₂ => ?_) fun _ _ q => q)
    exact gv_ok (n₁.trans n₂) (bin_ok g₂.inv (n₂.rep r₁) r₂ h₂) fun _ q => q
  | .neg i q p, _ => tv (fun _ _ => rfl) <| fun O s K E g h => by
    simp only [we] at h
    exact wpAny_UnaryOp (wpAny_Constant_int (P.neg_int ⟨.int (-i), O, g.inv.pure (.toks _ _), ⟨_, rfl⟩, h⟩))
  | .cmp o a b p, w => by
   refine ⟨fun O s K E g h => ?_, fun O s K E g h => ?_⟩
   · exact cmp_ev o p (we_ok a (wf_and w).1).1 (we_ok b (wf_and w).2).1 act O s K E g h
   · exact cmp_tst o p (we_ok a (wf_and w).1).1 (we_ok b (wf_and w).2).1 act O s K E g h
  | .cmp2 o o' a b d p, w => by
   refine ⟨fun O s K E g h => ?_, fun O s K E g h => ?_⟩
   · exact cmp2_ev o o' p (we_ok a (wf_and (wf_and w).1).1).1 (we_ok b (wf_and (wf_and w).1).2).1 (we_ok d (wf_and w).2).1 act O s K E g h
   · exact cmp2_tst o o' p (we_ok a (wf_and (wf_and w).1).1).1 (we_ok b (wf_and (wf_and w).1).2).1 (we_ok d (wf_and w).2).1 act O s K E g h
  | .boolop o x xs p, w => by
   refine ⟨fun O s K E g h => ?_, fun O s K E g h => ?_⟩
   · simp only [we] at h
     exact bos_ok xs (wf_and w).2 x (we_ok x (wf_and w).1).1 o p O s K E g h
   · simp only [we] at h
     exact wpAny_isTrue_BoolOp (ats_ok xs (wf_and w).2 x (we_ok x (wf_and w).1).2 o O s K E g h)
  | .not a p, w => by
   refine ⟨fun O s K E g h => ?_, fun O s K E g h => ?_⟩
   · simp only [we] at h
     refine wpAny_UnaryOp (then_ (we_ok a w).1 g h fun y s₁ va O₁ n₁ r₁ g₁ h₁ => ?_)
     obtain ⟨b, rfl, rfl, hb⟩ := asB_elim r₁ h₁
     exact not_value (wpAny_truthy_bool ⟨.bool !b, O₁, n₁, rfl, hb⟩)
   · simp only [we] at h
     exact wpAny_isTrue_Not (wpAny_mono ((we_ok a w).2 O s (fun b O₁ => K (!b) O₁) E g h) (fun b s₁ ⟨O₁, n₁, q⟩ => ⟨O₁, n₁, q⟩) fun _ _ f => f)
  | .ife t a b p, w => by
   refine ⟨fun O s K E g h => ?_, fun O s K E g h => ?_⟩
   · simp only [we] at h
     refine wpAny_IfExp (wpAny_mono ((we_ok t (wf_and (wf_and w).1).1).2 O s (fun cc O₁ => if cc = true then we C σ a O₁ K E else we C σ b O₁ K E) E g h) (fun cc s₁ ⟨O₁, n₁, q⟩ => ?_) fun _ _ f => f)
     cases cc with
     | true => exact rest_ n₁ ((we_ok a (wf_and (wf_and w).1).2).1 O₁ s₁ K E (g.next n₁) q) fun _ _ ⟨v, O', x1, x2, x3⟩ => ⟨v, O', n₁.trans x1, x2, x3⟩
     | false => exact rest_ n₁ ((we_ok b (wf_and w).2).1 O₁ s₁ K E (g.next n₁) q) fun _ _ ⟨v, O', x1, x2, x3⟩ => ⟨v, O', n₁.trans x1, x2, x3⟩
   · simp only [we] at h
     show wpAny _ _ (do if ← isTrue (t.emb N) env (eval (t.emb N) env) then isTrue (a.emb N) env (eval (a.emb N) env) else isTrue (b.emb N) env (eval (b.emb N) env)) _ _ _
     refine wpAny_bind (wpAny_mono ((we_ok t (wf_and (wf_and w).1).1).2 O s (fun cc O₁ => if cc = true then we C σ a O₁ (fun v O₁ => asB v fun b => K b O₁) E else we C σ b O₁ (fun v O₁ => asB v fun b => K b O₁) E) E g h) (fun cc s₁ ⟨O₁, n₁, q⟩ => ?_) fun _ _ f => f)
     cases cc with
     | true => exact rest_ n₁ ((we_ok a (wf_and (wf_and w).1).2).2 O₁ s₁ K E (g.next n₁) q) fun _ _ ⟨O', x1, x3⟩ => ⟨O', n₁.trans x1, x3⟩
     | false => exact rest_ n₁ ((we_ok b (wf_and w).2).2 O₁ s₁ K E (g.next n₁) q) fun _ _ ⟨O', x1, x3⟩ => ⟨O', n₁.trans x1, x3⟩
  | .list owned xs p, w => tv (fun _ _ => rfl) <| fun O s K E g h => by
    simp only [we] at h
    have w := wf_and w
    have hl : xs.len ≤ SZ := Nat.le_trans (of_decide_eq_true w.1) (by decide)
    refine wpAny_List (wpAny_mono (wes_ok xs w.2 O s p _ E g h) (fun ys s₁ ⟨vs, O₁, n₁, r₁, hz, h₁⟩ => ⟨by rw [← r₁.length, hz]; exact size_line hl, ?_⟩) fun _ _ f => f)
    rw [← hz] at hl
    have hz := hl
    cases owned with
    | true =>
      exact ⟨.lst s₁.heap.objs.size, _, n₁.trans (newListO n₁.inv hz r₁), rfl, h₁ _ (n₁.inv.fresh (size_none _))⟩
    | false =>
      have p := push_pure s₁ { cls := .type "list", data := .seq ys.toArray }
      have nx := n₁.inv.pure p
      exact ⟨.fl vs, O₁, n₁.trans nx, ⟨_, ys, rfl, ⟨_, Heap.get?_push_size _ rfl, rfl, 0, rfl⟩, n₁.inv.fresh (size_none _), hz, nx.reps r₁⟩, h₁⟩
  | .tup xs p, w => tv (fun _ _ => rfl) <| fun O s K E g h => by
    simp only [we] at h
    have w := wf_and w
    have hl : xs.len ≤ SZ := Nat.le_trans (of_decide_eq_true w.1) (by decide)
    refine wpAny_Tuple (wpAny_mono (wes_ok xs w.2 O s p _ E g h) (fun ys s₁ ⟨vs, O₁, n₁, r₁, hz, h₁⟩ => ⟨by rw [← r₁.length, hz]; exact size_line hl, ?_⟩) fun _ _ f => f)
    rw [← hz] at hl
    have hz := hl
    have nx := n₁.inv.pure (push_pure s₁ { cls := .type "tuple", data := .seq ys.toArray })
    exact ⟨.tup vs, O₁, n₁.trans nx, ⟨_, ys, rfl, ⟨_, Heap.get?_push_size _ rfl, rfl, 0, rfl⟩, n₁.inv.fresh (size_none _), hz, nx.reps r₁⟩, h₁⟩
  | .dict l p, _ => tv (fun _ _ => rfl) <| fun O s K E g h => by
    simp only [we] at h
    exact dict_ok g.inv h.1 h.2
  | .sub a i p, w => tv (fun _ _ => rfl) <| fun O s K E g h => by
    simp only [we] at h
    simp only [X.wf, Bool.and_eq_true] at w
    refine Subscript_ (then_ (we_ok a w.1).1 g h fun y s₁ va O₁ n₁ r₁ g₁ h₁ => rest_ n₁ (then_ (we_ok i w.2).1 g₁ h₁ fun z s₂ vb O₂ n₂ r₂ g₂ h₂ => ?_) fun _ _ q => q)
    exact gv_ok (n₁.trans n₂) (sub_ok g₂.inv (fun o v => emb_sub o v) (n₂.rep r₁) r₂ h₂) fun _ q => q
  | .sl a lo hi q p, w => tv (fun _ _ => rfl) <| fun O s K E g h => by
    simp only [we] at h
    simp only [X.wf, Bool.and_eq_true] at w
    refine Subscript_ (then_ (we_ok a w.1.1).1 g h fun y s₁ va O₁ n₁ r₁ g₁ h₁ => wpAny_Slice (rest_ n₁ (then_ (we_ok lo w.1.2).1 g₁ h₁ fun z s₂ vl O₂ n₂ r₂ g₂ h₂ => rest_ (n₁.trans n₂) (then_ (we_ok hi w.2).1 g₂ h₂ fun u s₃ vh O₃ n₃ r₃ g₃ h₃ => ?_) fun _ _ q => q) fun _ _ q => q))
    obtain ⟨i, ti, rfl, rfl, h₃⟩ := asI_elim (n₃.rep r₂) h₃
    obtain ⟨j, tj, rfl, rfl, h₃⟩ := asI_elim r₃ h₃
    rw [evalPart_none]
    refine wpAny_pure (sl_ok (A := A) g₃.inv (some (i, ti)) (some (j, tj)) (fun _ _ => rfl) (n₃.rep (n₂.rep r₁)) (slQ_ok h₃) _ _ fun r s' v p hr hv => ?_)
    exact ⟨v, O₃, ((n₁.trans n₂).trans n₃).trans (g₃.inv.pure p), hr, hv⟩
  | .slTo a hi q p, w => tv (fun _ _ => rfl) <| fun O s K E g h => by
    simp only [we] at h
    simp only [X.wf, Bool.and_eq_true] at w
    refine Subscript_ (then_ (we_ok a w.1).1 g h fun y s₁ va O₁ n₁ r₁ g₁ h₁ => wpAny_Slice (wpAny_pure (rest_ n₁ (then_ (we_ok hi w.2).1 g₁ h₁ fun u s₃ vh O₃ n₃ r₃ g₃ h₃ => ?_) fun _ _ q => q)))
    obtain ⟨j, tj, rfl, rfl, h₃⟩ := asI_elim r₃ h₃
    rw [evalPart_none]
    refine wpAny_pure (sl_ok (A := A) g₃.inv none (some (j, tj)) (fun _ _ => rfl) (n₃.rep r₁) (slQ_ok h₃) _ _ fun r s' v p hr hv => ?_)
    exact ⟨v, O₃, (n₁.trans n₃).trans (g₃.inv.pure p), hr, hv⟩
  | .slFrom a lo q p, w => tv (fun _ _ => rfl) <| fun O s K E g h => by
    simp only [we] at h
    simp only [X.wf, Bool.and_eq_true] at w
    refine Subscript_ (then_ (we_ok a w.1).1 g h fun y s₁ va O₁ n₁ r₁ g₁ h₁ => wpAny_Slice (rest_ n₁ (then_ (we_ok lo w.2).1 g₁ h₁ fun u s₃ vh O₃ n₃ r₃ g₃ h₃ => ?_) fun _ _ q => q))
    obtain ⟨j, tj, rfl, rfl, h₃⟩ := asI_elim r₃ h₃
    rw [evalPart_none]
    refine wpAny_pure (wpAny_pure (sl_ok (A := A) g₃.inv (some (j, tj)) none (fun _ _ => rfl) (n₃.rep r₁) (slQ_ok h₃) _ _ fun r s' v p hr hv => ?_))
    exact ⟨v, O₃, (n₁.trans n₃).trans (g₃.inv.pure p), hr, hv⟩
  | .call f q xs p, w => tv (fun _ _ => rfl) <| fun O s K E g h => by
    simp only [we, hold_eq] at h
    simp only [X.wf, Bool.and_eq_true] at w
    refine Call_ (act.glob g.inv w.1 (fn_mem f) ?_)
    cases xs with
    | nil => 
      simp only [wes] at h
      refine callWith_function (o := fnAt f.idx f.addr f.pm) (fd := fdAt f.idx f.addr f.pm) (PyProof.Rows.evalArgs_none ⟨⟨fn_at g.inv f, rfl⟩, ?_⟩)
      exact hC f [] O K E h s [] g.inv rfl
    | cons x xs =>
      refine callWith_def (o := fnAt f.idx f.addr f.pm) (fd := fdAt f.idx f.addr f.pm) rfl (wpAny_mono (wes_ok (.cons x xs) w.2 O s p _ E g h) (fun ys s₁ ⟨vs, O₁, n₁, r₁, _, h₁⟩ => ⟨fn_at n₁.inv f, ?_⟩) fun _ _ f => f) (emb_star N env xs x)
      refine rest_ n₁ (hC f vs O₁ K E h₁ s₁ ys n₁.inv r₁) fun y s' ⟨v, O', n', r', h'⟩ => ⟨v, O', n₁.trans n', r', h'⟩
  | .bcall f q a p, w => tv (fun _ _ => rfl) <| fun O s K E g h => by
    simp only [we] at h
    simp only [X.wf, Bool.and_eq_true] at w
    refine Call_ (act.blt g.inv w.1 (bf_mem f).1 (bf_mem f).2 (callWith_builtin1 (args_cons (then_ (we_ok a w.2).1 g h fun y s₁ va O₁ n₁ r₁ g₁ h₁ => args_nil ?_) (emb_star N env .nil a)) (emb_star N env .nil a)))
    exact gv_ok n₁ (bf_ok g₁.inv r₁ h₁) fun _ q => q
  | .rng1 q a p, w => tv (fun _ _ => rfl) <| fun O s K E g h => by
    simp only [we] at h
    refine Call_ (act.blt g.inv (wf_and w).1 rng_mem.1 rng_mem.2 (PyProof.Rows.callWith_type1 (args_cons (then_ (we_ok a (wf_and w).2).1 g h fun y s₁ va O₁ n₁ r₁ g₁ h₁ => args_nil ?_) (emb_star N env .nil a)) (emb_star N env .nil a)))
    obtain ⟨j, tj, rfl, rfl, hj⟩ := asI_elim r₁ h₁
    refine call_range_1 ⟨.rng 0 j, O₁, n₁.trans (g₁.inv.pure (.heap (fun _ _ e => Heap.get?_push_of_some _ e) _)), ⟨_, _, _, _, rfl, g₁.inv.fresh (size_none _), Heap.get?_push_size _ rfl⟩, hj⟩
  | .rng2 q a b p, w => tv (fun _ _ => rfl) <| fun O s K E g h => by
    simp only [we] at h
    have w1 := (wf_and (wf_and w).1).1
    refine Call_ (act.blt g.inv w1 rng_mem.1 rng_mem.2 (PyProof.Rows.callWith_type1 (args_cons (then_ (we_ok a (wf_and (wf_and w).1).2).1 g h fun y s₁ va O₁ n₁ r₁ g₁ h₁ => args_cons (rest_ n₁ (then_ (we_ok b (wf_and w).2).1 g₁ h₁ fun z s₂ vb O₂ n₂ r₂ g₂ h₂ => args_nil ?_) fun _ _ q => q) (emb_star N env .nil b)) (emb_star N env (.cons b .nil) a)) (emb_star N env (.cons b .nil) a) (by have := emb_star N env .nil b; simp only [Xs.emb] at this; rw [this]; rfl)))
    obtain ⟨i, ti, rfl, rfl, h₂⟩ := asI_elim (n₂.rep r₁) h₂
    obtain ⟨j, tj, rfl, rfl, hj⟩ := asI_elim r₂ h₂
    refine call_range_2 ⟨.rng i j, O₂, (n₁.trans n₂).trans (g₂.inv.pure (.heap (fun _ _ e => Heap.get?_push_of_some _ e) _)), ⟨_, _, _, _, rfl, g₂.inv.fresh (size_none _), Heap.get?_push_size _ rfl⟩, hj⟩
  | .meth o m q xs p, w => tv (fun _ _ => rfl) <| fun O s K E g h => by
    simp only [we] at h
    simp only [X.wf, Bool.and_eq_true, Bool.not_eq_true', decide_eq_true_eq] at w
    refine wpAny_Call_method_lateS (emb_base w.1.1.2) (emb_few N env p xs w.2) w.1.2 (then_ (we_ok o w.1.1.1.1).1 g h fun y s₁ vo O₁ n₁ r₁ g₁ h₁ => ?_)
    have h₁ := mthQ_ok h₁
    obtain ⟨T, id, hid, p1, p2, p3, p4, p5⟩ := mOk_ok g₁.inv r₁ h₁.1
    refine ⟨T, id, p1, p2, p3, p4, p5, ?_⟩
    have fin : ∀ {ys : List Value} {s₂ : Shared} {vs : List V} {O₂ : MH}, Next c s₁ O₁ s₂ O₂ → Reps c.w s₂.heap O₂ vs ys → methP O₂ m vo vs K → wpAny (model pg c.w) A (PySem.call (.builtin id) (y :: ys)) (Val c s O K) (Fly c .out s O E) s₂ := fun n₂ r₂ h₂ =>
      meth_ok n₂.inv (n₂.rep r₁) r₂ hid h₂ _ _ fun r s' v O' nx hr hv => ⟨v, O', (n₁.trans n₂).trans nx, hr, hv⟩
    cases xs with
    | nil =>
      have h₂ := h₁.2
      simp only [wes] at h₂
      exact callWith_method0 (fin (vs := []) (.refl g₁.inv) rfl h₂)
    | cons x xs =>
      exact callWith_method1 (rest_ n₁ (wes_ok (.cons x xs) w.1.1.1.2 O₁ s₁ p _ E g₁ h₁.2) fun ys s₂ ⟨vs, O₂, n₂, r₂, _, h₂⟩ => fin n₂ r₂ h₂) (emb_star N env xs x) (emb_plain N env p xs)
  | .line o q, w => tv (fun _ _ => rfl) <| fun O s K E g h => by
    simp only [we] at h
    have w1 := (wf_and w).1
    have w2 := (wf_and w).2
    rw [show X.emb N (.line o q) = .Attribute (o.emb N) (S [108, 105, 110, 101]) q from rfl, arm_eval_Attribute, emb_base (by cases o <;> first | rfl | cases w2)]
    refine wpAny_bind (then_ (we_ok o w1).1 g h fun y s₁ vo O₁ n₁ r₁ g₁ h₁ => ?_)
    cases vo <;> first | exact h₁.elim | skip
    rename_i line
    refine wpAny_bind (wpAny_standAt (wpAny_bind (wpAny_holding (getLine g₁.inv r₁ fun z s' p hz => wpAny_bind ?_))))
    have : ∀ r, letTemporaryGo (o.emb N) y r = pure () := fun r => by cases o <;> first | rfl | cases w2
    rw [this]
    exact wpAny_pure (wpAny_pure ⟨.int line, O₁, n₁.trans (g₁.inv.pure p), hz, h₁⟩)
  | .dead f q xs p, w => tv (fun _ _ => rfl) <| fun O s K E g h => by
    simp only [we] at h
theorem wes_ok : ∀ (xs : Xs), xs.wf env.kindOf k = true → EvsOk C c A env N L σ xs
  | .nil, _ => fun O s pos K E g h => args_nil ⟨[], O, .refl g.inv, rfl, rfl, by simpa only [wes] using h⟩
  | .cons x xs, w => fun O s pos K E g h => by
    simp only [wes] at h
    simp only [Xs.wf, Bool.and_eq_true] at w
    refine args_cons (then_ (we_ok x w.1).1 g h fun y s₁ va O₁ n₁ r₁ g₁ h₁ => rest_ n₁ (wes_ok xs w.2 O₁ s₁ pos _ E g₁ h₁) fun ys s₂ ⟨vs, O₂, n₂, r₂, hl, h₂⟩ => ?_) (emb_star N env xs x)
    exact ⟨va :: vs, O₂, n₁.trans n₂, ⟨y, ys, rfl, n₂.rep r₁, r₂⟩, by simp [Xs.len, hl], h₂⟩
theorem bos_ok : ∀ (xs : Xs), xs.wf env.kindOf k = true → ∀ x, EvOk C c A env N L σ x → ∀ (o : BoolOp) (pos : Pos) (O : MH) (s : Shared) (K : V → MH → Prop) (E : Int → MH → Prop), Good c N L σ O s →
      we C σ x O (fun v O₁ => asB v fun b => if shorts o b = true then K (.bool b) O₁ else wbo C σ o b xs O₁ K E) E →
      wpAny (model pg c.w) A (boolOp pos o (eval (x.emb N) env :: evalEach (xs.emb N) env)) (Val c s O K) (Fly c .out s O E) s
  | .nil, _, x, hx, o, pos, O, s, K, E, g, h => by
    refine then_ hx g h fun y s₁ va O₁ n₁ r₁ g₁ h₁ => ?_
    obtain ⟨b, rfl, rfl, hb⟩ := asB_elim r₁ h₁
    refine ⟨.bool b, O₁, n₁, rfl, ?_⟩
    split at hb
    · exact hb
    · simpa only [wbo] using hb
  | .cons z zs, w, x, hx, o, pos, O, s, K, E, g, h => by
    simp only [Xs.wf, Bool.and_eq_true] at w
    show wpAny _ _ (do
      let v ← eval (x.emb N) env
      standAt pos
      let t ← holding [v] (truthy v)
      match o, t with
      | .And, false | .Or, true => pure v
      | _, _ => boolOp pos o (eval (z.emb N) env :: evalEach (zs.emb N) env)) _ _ _
    refine wpAny_bind (then_ hx g h fun y s₁ va O₁ n₁ r₁ g₁ h₁ => ?_)
    obtain ⟨b, rfl, rfl, hb⟩ := asB_elim r₁ h₁
    refine wpAny_bind (wpAny_standAt (wpAny_bind (wpAny_holding (wpAny_truthy_bool ?_))))
    have short (q : K (.bool b) O₁) : wpAny (model pg c.w) A (pure (.bool b)) (Val c s O K) (Fly c .out s O E) s₁ := wpAny_pure ⟨.bool b, O₁, n₁, rfl, q⟩
    have long (q : wbo C σ o b (.cons z zs) O₁ K E) : wpAny (model pg c.w) A (boolOp pos o (eval (z.emb N) env :: evalEach (zs.emb N) env)) (Val c s O K) (Fly c .out s O E) s₁ := by
      simp only [wbo] at q
      exact rest_ n₁ (bos_ok zs w.2 z (we_ok z w.1).1 o pos O₁ s₁ K E g₁ q) fun _ _ ⟨v, O', a, b, d⟩ => ⟨v, O', n₁.trans a, b, d⟩
    cases o <;> cases b <;> first | exact short (by simpa [shorts] using hb) | exact long (by simpa [shorts] using hb)
theorem ats_ok : ∀ (xs : Xs), xs.wf env.kindOf k = true → ∀ x, TstOk C c A env N L σ x → ∀ (o : BoolOp) (O : MH) (s : Shared) (K : Bool → MH → Prop) (E : Int → MH → Prop), Good c N L σ O s →
      we C σ x O (fun v O₁ => asB v fun b => if shorts o b = true then asB (.bool b) fun b => K b O₁ else wbo C σ o b xs O₁ (fun v O₁ => asB v fun b => K b O₁) E) E →
      wpAny (model pg c.w) A (allTrue o (x.emb N :: xs.emb N) env) (fun b s' => ∃ O', Next c s O s' O' ∧ K b O') (Fly c .out s O E) s
  | .nil, _, x, hx, o, O, s, K, E, g, h => by
    have e : (fun (v : V) (O₁ : MH) => asB v fun b => if shorts o b = true then asB (.bool b) fun b => K b O₁ else wbo C σ o b .nil O₁ (fun v O₁ => asB v fun b => K b O₁) E) = fun v O₁ => asB v fun b => K b O₁ := by
      funext v O₁
      cases v <;> simp [asB, wbo]
    rw [e] at h
    have h' := hx O s K E g h
    cases o with
    | And => exact wpAny_allTrue_And_cons (wpAny_mono h' (fun b s₁ q => by cases b <;> first | exact q | exact wpAny_allTrue_And_nil q) fun _ _ f => f)
    | Or => exact wpAny_allTrue_Or_cons (wpAny_mono h' (fun b s₁ q => by cases b <;> first | exact q | exact wpAny_allTrue_Or_nil q) fun _ _ f => f)
  | .cons z zs, w, x, hx, o, O, s, K, E, g, h => by
    have h' := hx O s (fun b O₁ => if shorts o b = true then K b O₁ else wbo C σ o b (.cons z zs) O₁ (fun v O₁ => asB v fun b => K b O₁) E) E g h
    have long {b : Bool} {s₁ : Shared} {O₁ : MH} (n₁ : Next c s O s₁ O₁) (q : wbo C σ o b (.cons z zs) O₁ (fun v O₁ => asB v fun b => K b O₁) E) : wpAny (model pg c.w) A (allTrue o (z.emb N :: zs.emb N) env) (fun b s' => ∃ O', Next c s O s' O' ∧ K b O') (Fly c .out s O E) s₁ := by
      simp only [wbo] at q
      exact rest_ n₁ (ats_ok zs (wf_and w).2 z (we_ok z (wf_and w).1).2 o O₁ s₁ K E (g.next n₁) q) fun _ _ ⟨O', a, d⟩ => ⟨O', n₁.trans a, d⟩
    cases o with
    | And => exact wpAny_allTrue_And_cons (wpAny_mono h' (fun b s₁ ⟨O₁, n₁, q⟩ => by cases b <;> first | exact ⟨O₁, n₁, q⟩ | exact long (b := true) n₁ q | exact long (b := false) n₁ q) fun _ _ f => f)
    | Or => exact wpAny_allTrue_Or_cons (wpAny_mono h' (fun b s₁ ⟨O₁, n₁, q⟩ => by cases b <;> first | exact ⟨O₁, n₁, q⟩ | exact long (b := true) n₁ q | exact long (b := false) n₁ q) fun _ _ f => f)
end
end
end Mine
end
section
open PySem PySem.W PySem.Calls PyProof.Rows
set_option Elab.async false
set_option maxRecDepth 4000
set_option linter.all false
namespace Mine
/-- a step that may turn the fields of exceptions and tracebacks, and the slots of frames -/
noncomputable def Bump (O : MH) (h h' : Heap) : Prop := ∀ b o, h.get? b = some o →
  (O b = some .frame → ∃ sl, h'.get? b = some { o with slots := sl }) ∧ (∀ l, O b = some (.list l) → h'.get? b = some o) ∧
  (O b = none → h'.get? b = some o ∨ ((∃ vs, o.data = .fields vs) ∧ o.cls ≠ .type "range" ∧ ((∃ vs, h'.get? b = some { o with data := .fields vs }) ∨ o.cls ≠ .ref 51)))
theorem Bump.keep {O : MH} {h h' : Heap} (k : Bump O h h') {b : Addr} {o : Obj} (e : h.get? b = some o) (hO : O b = none) (hd : ∀ vs, o.data ≠ .fields vs) : h'.get? b = some o := by
  rcases (k b o e).2.2 hO with q | ⟨⟨vs, q⟩, _⟩
  · exact q
  · exact absurd q (hd vs)
mutual
theorem Rep.bump {w : World} {h h' : Heap} {O : MH} (k : Bump O h h') : ∀ (v : V) (x : Value), Rep w h O v x → Rep w h' O v x
  | .none, x, r => r
  | .bool b, x, r => r
  | .int i, x, r => r
  | .str l, x, r => r
  | .tup l, x, r => by
    obtain ⟨a, xs, e, ⟨o, ho, hc, n, hd⟩, hn, hl, hr⟩ := r
    exact ⟨a, xs, e, ⟨o, k.keep ho hn (by rw [hd]; intro _ q; cases q), hc, n, hd⟩, hn, hl, Reps.bump k l xs hr⟩
  | .fl l, x, r => by
    obtain ⟨a, xs, e, ⟨o, ho, hc, n, hd⟩, hn, hl, hr⟩ := r
    exact ⟨a, xs, e, ⟨o, k.keep ho hn (by rw [hd]; intro _ q; cases q), hc, n, hd⟩, hn, hl, Reps.bump k l xs hr⟩
  | .lst a, x, r => r
  | .dct l, x, r => by
    obtain ⟨a, e, hn, hs, f, hm, hf⟩ := r
    obtain ⟨o, es, ep, ho, h1, h2, r⟩ := hm
    exact ⟨a, e, hn, hs, f, ⟨o, es, ep, k.keep ho hn (by rw [h2]; intro _ q; cases q), h1, h2, r⟩, hf⟩
  | .rng lo hi, x, r => by
    obtain ⟨a, t1, t2, t3, e, hn, ho⟩ := r
    refine ⟨a, t1, t2, t3, e, hn, ?_⟩
    rcases (k a _ ho).2.2 hn with q | ⟨_, q, _⟩
    · exact q
    · exact absurd rfl q
  | .die line, x, r => by
    obtain ⟨e, dx, hx, hn, hn2, oe, vs, m, t, ho, hc, hd, hdt, ⟨od, es, ep, hod, h2, r⟩, hm⟩ := r
    have hns : h'.Ns dx m := ⟨od, es, ep, k.keep hod hn2 (by rw [h2]; intro _ q; cases q), h2, r⟩
    rcases (k e oe ho).2.2 hn with q | ⟨_, _, ⟨vs', q⟩ | q⟩
    · exact ⟨e, dx, hx, hn, hn2, oe, vs, m, t, q, hc, hd, hdt, hns, hm⟩
    rotate_left
    · exact absurd hc q
    · exact ⟨e, dx, hx, hn, hn2, _, vs', m, t, q, hc, hd, rfl, hns, hm⟩
  | .undef, x, r => r
theorem Reps.bump {w : World} {h h' : Heap} {O : MH} (k : Bump O h h') : ∀ (l : List V) (xs : List Value), Reps w h O l xs → Reps w h' O l xs
  | [], xs, r => r
  | v :: l, xs, r => by
    obtain ⟨x, r', e, a, b⟩ := r
    exact ⟨x, r', e, Rep.bump k v x a, Reps.bump k l r' b⟩
end
theorem Next.bump {c : Cx} {s s' : Shared} {O O' : MH} (i₀ : c.B.StaysIn s.heap) (n : Next c s O s' O') {h' : Heap} (bm : Bump O' s'.heap h') (old : ∀ b o o', s.heap.get? b = some o' → s'.heap.get? b = some o → O' b = none → h'.get? b = some o) :
    Next c s O { s' with heap := h' } O' := by
  refine ⟨⟨n.inv.base, fun b o e => old b o o (i₀ b o e) (n.inv.stay b o e) (n.inv.apart b o e), n.inv.apart, fun a l e => ?_, n.inv.frames_keep fun b o e q => ?_, n.inv.owned, fun a e => ?_, n.inv.gens, n.inv.os⟩, fun b o e => ⟨fun q => ?_, fun q => ?_⟩, n.grow⟩
  · obtain ⟨xs, ⟨o, m, ho, r⟩, h1, h2⟩ := n.inv.lists a l e
    exact ⟨xs, ⟨o, m, (bm a o ho).2.1 l e, r⟩, h1, h2.bump bm⟩
  · obtain ⟨sl, e'⟩ := (bm b o e).1 q
    exact ⟨_, e', rfl⟩
  · obtain ⟨o, ho, hd⟩ := n.inv.framed a e
    obtain ⟨sl, e'⟩ := (bm a o ho).1 e
    exact ⟨_, e', hd⟩
  · have e' := (n.kept b o e).1 q
    exact old b o o e e' ((n.grow.non e).mpr q)
  · obtain ⟨sl, e'⟩ := (n.kept b o e).2 q
    obtain ⟨sl', e''⟩ := (bm b _ e').1 ((n.grow.frame e).mpr q)
    exact ⟨sl', e''⟩

theorem upd_fields {h : Heap} {a : Addr} {o : Obj} {vs : Array Value} (f : Array Value → Array Value) (ho : h.get? a = some o) (hd : o.data = .fields vs) : (h.update a (Obj.mapFields f)).get? a = some { o with data := .fields (f vs) } := by
  obtain ⟨c, d, dt, sl⟩ := o
  subst hd
  exact Heap.get?_update_self (Obj.mapFields f) ho rfl
theorem Bump.refl (O : MH) (h : Heap) : Bump O h h := fun _ o e => ⟨fun _ => ⟨o.slots, e⟩, fun _ _ => e, fun _ => .inl e⟩
theorem Bump.trans {O : MH} {h h' h'' : Heap} (x : Bump O h h') (y : Bump O h' h'') : Bump O h h'' := fun b o e => by
  refine ⟨fun q => ?_, fun l q => (y b o ((x b o e).2.1 l q)).2.1 l q, fun q => ?_⟩
  · obtain ⟨sl, e'⟩ := (x b o e).1 q
    obtain ⟨sl', e''⟩ := (y b _ e').1 q
    exact ⟨sl', e''⟩
  · rcases (x b o e).2.2 q with e' | ⟨h1, h2, ⟨vs, e'⟩ | e'⟩
    · exact (y b o e').2.2 q
    · rcases (y b _ e').2.2 q with e'' | ⟨_, _, ⟨vs', e''⟩ | e''⟩
      · exact .inr ⟨h1, h2, .inl ⟨vs, e''⟩⟩
      · exact .inr ⟨h1, h2, .inl ⟨vs', e''⟩⟩
      · exact .inr ⟨h1, h2, .inr e''⟩
    · exact .inr ⟨h1, h2, .inr e'⟩
theorem Bump.upd {O : MH} {h : Heap} {a : Addr} {o : Obj} {vs : Array Value} (f : Array Value → Array Value) (ho : h.get? a = some o) (hd : o.data = .fields vs) (hc : o.cls ≠ .type "range") (hO : O a = none) : Bump O h (h.update a (Obj.mapFields f)) := fun b p e => by
  by_cases q : b = a
  · subst q
    rw [ho] at e; cases e
    exact ⟨fun q => (by rw [hO] at q; cases q), fun l q => (by rw [hO] at q; cases q), fun _ => .inr ⟨⟨vs, hd⟩, hc, .inl ⟨_, upd_fields f ho hd⟩⟩⟩
  · have e' : (h.update a (Obj.mapFields f)).get? b = some p := (Heap.get?_update_other _ _ (Ne.symm q)).trans e
    exact ⟨fun _ => ⟨p.slots, e'⟩, fun _ _ => e', fun _ => .inl e'⟩
theorem Bump.keeps {O : MH} {h h' : Heap} (k : ∀ b o, h.get? b = some o → h'.get? b = some o) : Bump O h h' := fun b o e => ⟨fun _ => ⟨o.slots, k b o e⟩, fun _ _ => k b o e, fun _ => .inl (k b o e)⟩

section
variable {n : Nat} {c : Cx} {A : Around} {env : Env} {N : Nat → Str} {L : Addr} {k : Nat}
theorem Act.frame (act : Act n c A env N L k) : env.frame = some L := by
  obtain ⟨name, scope, a, cd, rfl, _⟩ := act.shape
  rfl
/-- what may change between two moments of a flight: the exception, its traceback entries, frames -/
structure Turn (c : Cx) (O' : MH) (h₀ h h' : Heap) : Prop where
  bump : Bump O' h h'
  old : ∀ b o o', h₀.get? b = some o' → h.get? b = some o → O' b = none → h'.get? b = some o
theorem Turn.trans {O' : MH} {h₀ h h' h'' : Heap} (x : Turn c O' h₀ h h') (y : Turn c O' h₀ h' h'') : Turn c O' h₀ h h'' :=
  ⟨x.bump.trans y.bump, fun b o o' e e' q => y.old b o o' e (x.old b o o' e e' q) q⟩
theorem Turn.keeps {O' : MH} {h₀ h h' : Heap} (k : ∀ b o, h.get? b = some o → h'.get? b = some o) : Turn c O' h₀ h h' := ⟨.keeps k, fun b o _ _ e _ => k b o e⟩
theorem Turn.upd {O' : MH} {h₀ h : Heap} {a : Addr} {o : Obj} {vs : Array Value} (f : Array Value → Array Value) (ho : h.get? a = some o) (hd : o.data = .fields vs) (hc : o.cls ≠ .type "range") (hO : O' a = none) (hn : h₀.get? a = none) : Turn c O' h₀ h (h.update a (Obj.mapFields f)) :=
  ⟨.upd f ho hd hc hO, fun b o o' e e' q => (Heap.get?_update_other _ _ (by rintro rfl; rw [hn] at e; cases e)).trans e'⟩
theorem notFrame {O : MH} {s : Shared} (i : Inv c O s) {a : Addr} {o : Obj} {vs : Array Value} (ho : s.heap.get? a = some o) (hd : o.data = .fields vs) : O a = none := by
  cases q : O a with
  | none => rfl
  | some cl =>
    cases cl with
    | frame => obtain ⟨o', h1, h2⟩ := i.framed a q; rw [ho] at h1; cases h1; exact absurd hd (h2 vs)
    | list l => obtain ⟨xs, ⟨o', m, h1, _, _, h4⟩, _⟩ := i.lists a l q; rw [ho] at h1; cases h1; rw [hd] at h4; cases h4

theorem Bump.ns {O : MH} {h h' : Heap} (k : Bump O h h') {a : Addr} {m : Str → Option Value} (hO : O a = none) (x : h.Ns a m) : h'.Ns a m := by
  obtain ⟨o, es, ep, e, hd, r⟩ := x
  exact ⟨o, es, ep, k.keep e hO (by rw [hd]; intro _ q; cases q), hd, r⟩
theorem turn_next {s s' : Shared} {O O' : MH} (i₀ : c.B.StaysIn s.heap) (nx : Next c s O s' O') {h' : Heap} (t : Turn c O' s.heap s'.heap h') : Next c s O { s' with heap := h' } O' := nx.bump i₀ t.bump t.old
theorem slots_turn {s : Shared} {O' : MH} {h₀ h₁ : Heap} (i : Inv c O' s) (hs : Heap.SlotsOnly (c.fr.filterMap (·.frame)) s.heap h₁) : Turn c O' h₀ s.heap h₁ := by
  have own : ∀ b, b ∈ c.fr.filterMap (·.frame) → O' b = some .frame := fun b hb => by
    obtain ⟨env, he, hf⟩ := List.mem_filterMap.mp hb
    exact i.owned env he b hf
  refine ⟨fun b o e => ⟨fun _ => hs.2.2 b o e, fun l q => ?_, fun q => .inl ?_⟩, fun b o _ _ e q => ?_⟩
  · rw [hs.2.1 b fun hb => by rw [own b hb] at q; cases q]; exact e
  · rw [hs.2.1 b fun hb => by rw [own b hb] at q; cases q]; exact e
  · rw [hs.2.1 b fun hb => by rw [own b hb] at q; cases q]; exact e

/-- a new traceback entry for the frame at hand -/
theorem entry_ok (act : Act n c A env N L k) {s s₁ : Shared} {O O' : MH} (i₀ : c.B.StaysIn s.heap) {e dx : Addr} {oe : Obj} {vs : Array Value} {m : Str → Option Value} {line : Int} {t : Tok} {head : Value} {hadNext : Bool} {Q : Unit → Shared → Prop} {E' : Value → Shared → Prop}
    (nx : Next c s O s₁ O') (h1 : s.heap.get? e = none) (h2 : O' e = none) (h3 : O' dx = none) (h4 : s₁.heap.get? e = some oe) (h5 : oe.cls = .ref 51) (h6 : oe.dict = some dx) (h7 : oe.data = .fields vs) (h8 : vs.size = 6)
    (h9 : s₁.heap.Ns dx m) (h10 : m (S [108, 105, 110, 101]) = some (.int line t)) (q : ∀ h', Next c s O { s₁ with heap := h' } O' → Exc s.heap h' O' e line (.held L) → Q () { s₁ with heap := h' }) :
    wpAny (model pg c.w) A (do let a ← frameOf env; let pl ← entryPlaceOf L hadNext; let b ← EntryCells.newEntry head a .none (rawInt L) .none pl; setField (.ref e) 1 b) Q E' s₁ := by
  obtain ⟨outer, ho⟩ := act.top
  have hf := nx.inv.frames
  rw [ho] at hf
  refine wpAny_bind (wpAny_frameOf_fun (act.ok.frames.trans (by rw [ho])) hf act.frame fun h₁ hs₁ => ?_)
  rw [← ho] at hs₁
  have t₁ : Turn c O' s.heap s₁.heap h₁ := slots_turn nx.inv hs₁
  refine wpAny_bind (wpAny_entryPlaceOf fun pl hpl => ?_)
  unfold EntryCells.newEntry newFields
  refine wpAny_bind (wpAny_newObj_type ?_ (hpl.sizeOk5 _ _ _ _ _))
  have n₁ := turn_next i₀ nx t₁
  have he₁ : h₁.get? e = some oe := by
    have : e ∉ c.fr.filterMap (·.frame) := fun hb => by
      obtain ⟨env, he, hf⟩ := List.mem_filterMap.mp hb
      rw [nx.inv.owned env he e hf] at h2; cases h2
    exact (hs₁.2.1 e this).trans h4
  have kp : ∀ ob b o, h₁.get? b = some o → (h₁.push ob).get? b = some o := fun ob b o e => Heap.get?_push_of_some _ e
  refine wpAny_setField (kp _ e oe he₁) h7 (by omega) (q _ (turn_next i₀ nx ((t₁.trans (Turn.keeps (kp _))).trans (Turn.upd _ (kp _ e oe he₁) h7 (by rw [h5]; decide) h2 h1))) ?_)
  have hne : h₁.objs.size ≠ e := Nat.ne_of_gt (Heap.lt_size he₁)
  refine ⟨h1, dx, _, _, m, t, h2, h3, upd_fields _ (kp _ e oe he₁) h7, h5, h6, rfl, by simpa using h8, ?_, h10, h₁.objs.size, _, _, rawInt L, ?_, ?_, hne, (Heap.get?_update_other _ _ (Ne.symm hne)).trans (Heap.get?_push_size h₁ rfl), rfl, rfl, ?_, .inr rfl⟩
  · exact ((t₁.trans (Turn.keeps (kp _))).trans (Turn.upd _ (kp _ e oe he₁) h7 (by rw [h5]; decide) h2 h1)).bump.ns h3 h9
  · simp [h8]
  · exact n₁.stands.none (size_none _)
  · rcases hpl with rfl | ⟨_, _, _, _, _, _, _, rfl⟩ <;> simp

theorem note_ok (act : Act n c A env N L k) {s s' : Shared} {O : MH} (i₀ : c.B.StaysIn s.heap) {E : Int → MH → Prop} {ex : Value} {E' : Value → Shared → Prop} (f : Fly c (.here L) s O E ex s') :
    wpAny (model pg c.w) A (noteFrame ex env) (fun _ s'' => Fly c (.held L) s O E ex s'') E' s' := by
  obtain ⟨e, line, O', rfl, nx, ⟨h1, dx, oe, vs, m, t, h2, h3, h4, h5, h6, h7, h8, h9, h10, h11⟩, hE⟩ := f
  unfold noteFrame
  simp only [act.frame]
  have fin : ∀ {s₁ : Shared} {vs' : Array Value} {oe' : Obj}, Next c s O s₁ O' → s₁.heap.get? e = some oe' → oe'.cls = .ref 51 → oe'.dict = some dx → oe'.data = .fields vs' → vs'.size = 6 → s₁.heap.Ns dx m → ∀ head hadNext,
      wpAny (model pg c.w) A (do let a ← frameOf env; let pl ← entryPlaceOf L hadNext; let b ← EntryCells.newEntry head a .none (rawInt L) .none pl; setField (.ref e) 1 b) (fun _ s'' => Fly c (.held L) s O E (.ref e) s'') E' s₁ :=
    fun nx' k1 k2 k3 k4 k5 k6 head hadNext => entry_ok act i₀ nx' h1 h2 h3 k1 k2 k3 k4 k5 k6 h10 fun h' n' x => ⟨e, line, O', rfl, n', x, hE⟩
  rcases h11 with hv | ⟨T, oT, ts, fl, q1, q2, q3, q4, q5, q6, q7, q8⟩
  · refine wpAny_bind (wpAny_field h4 h7 hv ?_)
    rw [if_neg (by decide)]
    exact fin nx h4 h5 h6 h7 h8 h9 _ _
  · refine wpAny_bind (wpAny_field h4 h7 q1 ?_)
    rw [if_pos (show (Value.ref T != Value.none) = true from by simp)]
    refine wpAny_bind (wpAny_field q4 q6 q7 ?_)
    rcases q8 with rfl | rfl
    · rw [if_neg (show ¬ ((Value.none == rawInt L) = true) from by simp [rawInt])]
      have hT := notFrame nx.inv q4 q6
      have tn : Turn c O' s.heap s'.heap (s'.heap.update T (Obj.mapFields (·.setIfInBounds 3 Value.none))) := Turn.upd _ q4 q6 (by rw [q5]; decide) hT q2
      refine wpAny_bind (wpAny_setField q4 q6 (Array.getElem?_eq_some_iff.mp q7).1 ?_)
      exact fin (turn_next i₀ nx tn) ((Heap.get?_update_other _ _ q3).trans h4) h5 h6 h7 h8 (tn.bump.ns h3 h9) _ _
    · rw [if_pos (show (rawInt L == rawInt L) = true from by simp)]
      exact wpAny_pure ⟨e, line, O', rfl, nx, ⟨h1, dx, oe, vs, m, t, h2, h3, h4, h5, h6, h7, h8, h9, h10, T, oT, ts, _, q1, q2, q3, q4, q5, q6, q7, .inr rfl⟩, hE⟩

theorem flight_ok {s s' : Shared} {O : MH} (i₀ : c.B.StaysIn s.heap) {E : Int → MH → Prop} {ex : Value} {E' : Value → Shared → Prop} (fr : Option Addr) (md : Md) (hmd : md = (match fr with | none => Md.out | some _ => Md.held L)) (hfr : ∀ a, fr = some a → a = L) (f : Fly c (.held L) s O E ex s') :
    wpAny (model pg c.w) A (setFlight ex fr) (fun _ s'' => Fly c md s O E ex s'') E' s' := by
  obtain ⟨e, line, O', rfl, nx, ⟨h1, dx, oe, vs, m, t, h2, h3, h4, h5, h6, h7, h8, h9, h10, T, oT, ts, fl, q1, q2, q3, q4, q5, q6, q7, q8⟩, hE⟩ := f
  have hT := notFrame nx.inv q4 q6
  have hz := (Array.getElem?_eq_some_iff.mp q7).1
  unfold setFlight
  refine wpAny_bind (wpAny_field h4 h7 q1 ?_)
  rw [if_pos (show (Value.ref T != Value.none) = true from by simp)]
  have tn : Turn c O' s.heap s'.heap (s'.heap.update T (Obj.mapFields (·.setIfInBounds 3 (fr.elim Value.none fun f => rawInt f)))) := Turn.upd _ q4 q6 (by rw [q5]; decide) hT q2
  refine wpAny_setField q4 q6 hz ⟨e, line, O', rfl, turn_next i₀ nx tn, ⟨h1, dx, oe, vs, m, t, h2, h3, (Heap.get?_update_other _ _ q3).trans h4, h5, h6, h7, h8, tn.bump.ns h3 h9, h10, ?_⟩, hE⟩
  subst hmd
  cases fr with
  | none => exact ⟨T, _, _, _, q1, q2, q3, upd_fields _ q4 q6, q5, rfl, by simp [hz], rfl⟩
  | some a =>
    obtain rfl := hfr a rfl
    exact ⟨T, _, _, rawInt a, q1, q2, q3, upd_fields _ q4 q6, q5, rfl, by simp [hz], .inr rfl⟩
theorem leaving_ok (act : Act n c A env N L k) {s s' : Shared} {O : MH} (i₀ : c.B.StaysIn s.heap) {E : Int → MH → Prop} {ex : Value} {E' : Value → Shared → Prop} (f : Fly c (.here L) s O E ex s') :
    wpAny (model pg c.w) A (leaving env ex) (fun _ s'' => Fly c .out s O E ex s'') E' s' := by
  unfold leaving
  exact wpAny_bind (wpAny_mono (note_ok act i₀ f (E' := E')) (fun _ s₁ f₁ => flight_ok i₀ none .out rfl (fun a e => nomatch e) f₁) fun _ _ x => x)
/-- a raise within a loop: noted, and set back into its frame -/
theorem loop_ok (act : Act n c A env N L k) {s s' : Shared} {O : MH} (i₀ : c.B.StaysIn s.heap) {E : Int → MH → Prop} {ex : Value} (f : Fly c (.here L) s O E ex s') :
    notedBy (model pg c.w) A env (cameBackBy (model pg c.w) A env (Fly c (.here L) s O E)) ex s' := by
  refine wpAny_mono (note_ok act i₀ f (E' := fun _ _ => False)) (fun _ s₁ f₁ => ?_) fun _ _ x => x.elim
  have f₁' := f₁
  obtain ⟨e, line, O', rfl, nx, ⟨h1, dx, oe, vs, m, t, h2, h3, h4, h5, h6, h7, h8, h9, h10, T, oT, ts, fl, q1, q2, q3⟩, hE⟩ := f₁
  unfold cameBackBy
  refine wpAny_bind (wpAny_field h4 h7 q1 ?_)
  rw [if_neg (show ¬ ((Value.ref T == Value.none) = true) from by simp)]
  rw [act.frame]
  exact wpAny_mono (flight_ok i₀ (some L) (.held L) rfl (fun a e => (Option.some.inj e).symm) f₁') (fun _ s₂ f₂ => f₂.heldHere) fun _ _ x => x
end
end Mine
end
section
open PySem PySem.W PySem.Calls PyProof.Rows
set_option Elab.async false
set_option maxRecDepth 4000
set_option linter.all false
namespace Mine
mutual
theorem Rep.weak {w : World} {h : Heap} {O O' : MH} (k : ∀ a, O a = none → O' a = none) : ∀ (v : V) (x : Value), Rep w h O v x → Rep w h O' v x
  | .none, x, r => r
  | .bool b, x, r => r
  | .int i, x, r => r
  | .str l, x, r => r
  | .tup l, x, r => by
    obtain ⟨a, xs, e, ht, hn, hl, hr⟩ := r
    exact ⟨a, xs, e, ht, k _ hn, hl, Reps.weak k l xs hr⟩
  | .fl l, x, r => by
    obtain ⟨a, xs, e, ht, hn, hl, hr⟩ := r
    exact ⟨a, xs, e, ht, k _ hn, hl, Reps.weak k l xs hr⟩
  | .lst a, x, r => r
  | .dct l, x, r => by
    obtain ⟨a, e, hn, r⟩ := r
    exact ⟨a, e, k _ hn, r⟩
  | .rng lo hi, x, r => by
    obtain ⟨a, t1, t2, t3, e, hn, r⟩ := r
    exact ⟨a, t1, t2, t3, e, k _ hn, r⟩
  | .die line, x, r => by
    obtain ⟨e, dx, hx, hn, hn2, r⟩ := r
    exact ⟨e, dx, hx, k _ hn, k _ hn2, r⟩
  | .undef, x, r => r
theorem Reps.weak {w : World} {h : Heap} {O O' : MH} (k : ∀ a, O a = none → O' a = none) : ∀ (l : List V) (xs : List Value), Reps w h O l xs → Reps w h O' l xs
  | [], xs, r => r
  | v :: l, xs, r => by
    obtain ⟨x, r', e, a, b⟩ := r
    exact ⟨x, r', e, Rep.weak k v x a, Reps.weak k l r' b⟩
end
section
variable {w : World} {h h' : Heap} {O : MH} {L : Addr}
theorem weak_in (hL : O L = some .frame) : ∀ a, O a = none → upd O L (.list []) a = none := fun a e => by
  rw [upd_ne _ (by rintro rfl; rw [hL] at e; cases e)]; exact e
theorem weak_out : ∀ a, upd O L (.list []) a = none → O a = none := fun a e => by
  by_cases q : a = L
  · subst q; rw [upd_self] at e; cases e
  · rwa [upd_ne _ q] at e
theorem kept_but (k : ∀ b o, b ≠ L → h.get? b = some o → h'.get? b = some o) : Kept (upd O L (.list [])) h h' := fun b o e => by
  by_cases q : b = L
  · subst q; exact ⟨fun z => (by rw [upd_self] at z; cases z), fun z => (by rw [upd_self] at z; cases z)⟩
  · exact ⟨fun _ => k b o q e, fun _ => ⟨o.slots, k b o q e⟩⟩
theorem Rep.but (hL : O L = some .frame) (k : ∀ b o, b ≠ L → h.get? b = some o → h'.get? b = some o) {v : V} {x : Value} (r : Rep w h O v x) : Rep w h' O v x :=
  Rep.weak weak_out v x ((Rep.weak (weak_in hL) v x r).mono (kept_but k) (Grow.refl _ _))
theorem Reps.but (hL : O L = some .frame) (k : ∀ b o, b ≠ L → h.get? b = some o → h'.get? b = some o) {v : List V} {x : List Value} (r : Reps w h O v x) : Reps w h' O v x :=
  Reps.weak weak_out v x ((Reps.weak (weak_in hL) v x r).mono (kept_but k) (Grow.refl _ _))
end
theorem Inv.frames_keep' {c : Cx} {O : MH} {s : Shared} (i : Inv c O s) {h' : Heap} (k : ∀ b o, s.heap.get? b = some o → O b = some .frame → (∀ vs, o.data ≠ .fields vs) → ∃ o', h'.get? b = some o' ∧ ∀ vs, o'.data ≠ .fields vs) : h'.FunFrames c.B c.fr := by
  have ho := i.owned
  have hf := i.frames
  generalize c.fr = fr at ho hf
  induction fr with
  | nil => trivial
  | cons env rest ih =>
    obtain ⟨hk, ⟨L, o, hL, hn, hg, hd⟩, hr⟩ := hf
    obtain ⟨o', ho', hd'⟩ := k L o hg (ho env (.head _) L hL) hd
    exact ⟨hk, ⟨L, o', hL, hn, ho', hd'⟩, ih (fun e he => ho e (.tail _ he)) hr⟩
/-- a local is stored -/
theorem Inv.turn {c : Cx} {O : MH} {s s' : Shared} {L : Addr} (i : Inv c O s) (hL : O L = some .frame) (k : ∀ b o, b ≠ L → s.heap.get? b = some o → s'.heap.get? b = some o) (hg : s'.gens = s.gens) (hos : s'.os = s.os)
    (hl : ∃ o, s'.heap.get? L = some o ∧ ∀ vs, o.data ≠ .fields vs) : Inv c O s' := by
  have fr : ∀ b o, s.heap.get? b = some o → O b = some .frame → (∀ vs, o.data ≠ .fields vs) → ∃ o', s'.heap.get? b = some o' ∧ ∀ vs, o'.data ≠ .fields vs := fun b o e _ hd => by
    by_cases q : b = L
    · subst q; exact hl
    · exact ⟨o, k b o q e, hd⟩
  refine ⟨i.base, fun b o e => ?_, i.apart, fun a l e => ?_, i.frames_keep' fr, i.owned, fun a e => ?_, hg.trans i.gens, hos.trans i.os⟩
  · exact k b o (by rintro rfl; have := i.apart _ o e; rw [hL] at this; cases this) (i.stay b o e)
  · obtain ⟨xs, ⟨o, n, ho, r⟩, h1, h2⟩ := i.lists a l e
    exact ⟨xs, ⟨o, n, k a o (by rintro rfl; rw [hL] at e; cases e) ho, r⟩, h1, h2.but hL k⟩
  · obtain ⟨o, ho, hd⟩ := i.framed a e
    exact fr a o ho e hd
theorem Next.turn {c : Cx} {O₀ O : MH} {s₀ s s' : Shared} {L : Addr} (n : Next c s₀ O₀ s O) (h₀ : s₀.heap.get? L = none) (i : Inv c O s') (k : ∀ b o, b ≠ L → s.heap.get? b = some o → s'.heap.get? b = some o) : Next c s₀ O₀ s' O :=
  ⟨i, fun b o e => by
    have hb : b ≠ L := by rintro rfl; rw [h₀] at e; cases e
    refine ⟨fun q => k b o hb ((n.kept b o e).1 q), fun q => ?_⟩
    obtain ⟨sl, e'⟩ := (n.kept b o e).2 q
    exact ⟨sl, k b _ hb e'⟩, n.grow⟩

/-- the state without its frame: what a turn of a loop is measured by -/
noncomputable def cut (L : Addr) (s : Shared) : Shared := { s with heap := s.heap.update L fun o => { o with data := .freed } }
theorem cut_none (L : Addr) (s : Shared) : (cut L s).heap.get? L = none := by
  cases e : (cut L s).heap.get? L with
  | none => rfl
  | some o =>
    have := Heap.get?_some_iff.mp e
    unfold cut at this
    cases hh : s.heap
    rw [hh] at this
    simp only [Heap.update, Array.getElem?_modify, if_true] at this
    obtain ⟨h1, h2⟩ := this
    obtain ⟨p, _, hp⟩ := Option.map_eq_some_iff.mp h1
    subst hp
    cases h2
theorem cut_ne {L b : Addr} (s : Shared) (h : b ≠ L) : (cut L s).heap.get? b = s.heap.get? b := Heap.get?_update_other _ _ (Ne.symm h)
theorem cut_some {L b : Addr} {s : Shared} {o : Obj} (e : (cut L s).heap.get? b = some o) : b ≠ L ∧ s.heap.get? b = some o := by
  have hb : b ≠ L := by rintro rfl; rw [cut_none] at e; cases e
  exact ⟨hb, cut_ne s hb ▸ e⟩
theorem Inv.cut {c : Cx} {O : MH} {s : Shared} {L : Addr} (i : Inv c O s) : Next c (cut L s) O s O :=
  ⟨i, fun b o e => ⟨fun _ => (cut_some e).2, fun _ => ⟨o.slots, (cut_some e).2⟩⟩, fun _ _ _ => rfl⟩
theorem cut_stays {c : Cx} {O : MH} {s : Shared} {L : Addr} (i : Inv c O s) (hL : O L = some .frame) : c.B.StaysIn (Mine.cut L s).heap := fun b o e => by
  rw [cut_ne s (by rintro rfl; have := i.apart _ o e; rw [hL] at this; cases this)]; exact i.stay b o e
theorem Next.via {c : Cx} {O₀ O O' : MH} {s₀ s s' : Shared} {L : Addr} (n : Next c s₀ O₀ s O) (h₀ : s₀.heap.get? L = none) (n' : Next c (cut L s) O s' O') : Next c s₀ O₀ s' O' := by
  refine ⟨n'.inv, fun b o e => ?_, fun b o e => ?_⟩
  · have hb : b ≠ L := by rintro rfl; rw [h₀] at e; cases e
    refine ⟨fun q => ?_, fun q => ?_⟩
    · exact (n'.kept b o (by rw [cut_ne s hb]; exact (n.kept b o e).1 q)).1 ((n.grow.non e).mpr q)
    · obtain ⟨sl, e'⟩ := (n.kept b o e).2 q
      obtain ⟨sl', e''⟩ := (n'.kept b _ (by rw [cut_ne s hb]; exact e')).2 ((n.grow.frame e).mpr q)
      exact ⟨sl', e''⟩
  · have hb : b ≠ L := by rintro rfl; rw [h₀] at e; cases e
    obtain ⟨o', e'⟩ := n.stands b o e
    rw [n'.grow b o' (by rw [cut_ne s hb]; exact e'), n.grow b o e]
theorem stands_cut {c : Cx} {O₀ O : MH} {s₀ s : Shared} {L : Addr} (n : Next c s₀ O₀ s O) (h₀ : s₀.heap.get? L = none) : Stands s₀.heap (cut L s).heap := fun b o e => by
  obtain ⟨o', e'⟩ := n.stands b o e
  exact ⟨o', by rw [cut_ne s (by rintro rfl; rw [h₀] at e; cases e)]; exact e'⟩
theorem Fly.via {c : Cx} {md : Md} {O₀ O : MH} {s₀ s : Shared} {L : Addr} (n : Next c s₀ O₀ s O) (h₀ : s₀.heap.get? L = none) {E : Int → MH → Prop} {ex : Value} {s' : Shared} (f : Fly c md (cut L s) O E ex s') : Fly c md s₀ O₀ E ex s' := by
  obtain ⟨e, line, O', rfl, n', h3, h4⟩ := f
  exact ⟨e, line, O', rfl, n.via h₀ n', h3.base (stands_cut n h₀), h4⟩

section
variable {n : Nat} {C : CallP} {c : Cx} {A : Around} {env : Env} {N : Nat → Str} {L : Addr} {k : Nat} {σ : List V}
noncomputable def FlOk (c : Cx) (N : Nat → Str) (L : Addr) (k : Nat) (s₀ : Shared) (O₀ : MH) (K : Fl → List V → MH → Prop) : Flow → Shared → Prop := fun f s' => ∃ O', Next c s₀ O₀ s' O' ∧ match f with
  | .next => ∃ σ', Good c N L σ' O' s' ∧ σ'.length = k ∧ K .next σ' O'
  | .brk => ∃ σ', Good c N L σ' O' s' ∧ σ'.length = k ∧ K .brk σ' O'
  | .cont => ∃ σ', Good c N L σ' O' s' ∧ σ'.length = k ∧ K .cont σ' O'
  | .ret y => ∃ σ' v, Rep c.w s'.heap O' v y ∧ K (.ret v) σ' O'
theorem FlOk.via {s₀ s : Shared} {O₀ O : MH} {K : Fl → List V → MH → Prop} (n : Next c s₀ O₀ s O) (h₀ : s₀.heap.get? L = none) {f : Flow} {s' : Shared} (x : FlOk c N L k (cut L s) O K f s') : FlOk c N L k s₀ O₀ K f s' := by
  obtain ⟨O', n', h⟩ := x
  exact ⟨O', n.via h₀ n', h⟩
theorem set_def {i j : Nat} {v : V} (hi : i < σ.length) : gv (σ.set i v) j = if j = i then v else gv σ j := by
  unfold gv
  rw [List.getD_eq_getElem?_getD, List.getD_eq_getElem?_getD, List.getElem?_set]
  by_cases q : i = j
  · subst q; simp [hi]
  · rw [if_neg q, if_neg (Ne.symm q)]
theorem Rep.isDef {w : World} {h : Heap} {O : MH} {v : V} {x : Value} (r : Rep w h O v x) : v.isDef = true := by
  cases v <;> first | rfl | exact r.elim
theorem store_ok {A' : Around} (act : Act n c A env N L k) {s₀ s : Shared} {O₀ O : MH} (h₀ : s₀.heap.get? L = none) (nx : Next c s₀ O₀ s O) (g : Good c N L σ O s) (hk : σ.length = k) {i : Nat} (hi : i < k) {v : V} {y : Value} (r : Rep c.w s.heap O v y)
    {Q : Unit → Shared → Prop} {E : Value → Shared → Prop} (q : ∀ s', Next c s₀ O₀ s' O → Good c N L (σ.set i v) O s' → (∀ b o, b ≠ L → s.heap.get? b = some o → s'.heap.get? b = some o) → Q () s') : wpAny (model pg c.w) A' (storeName env (N i) y) Q E s := by
  obtain ⟨name, scope, a, cd, he, hkd⟩ := act.shape
  obtain ⟨m, hm, hl⟩ := g.locs
  have hloc := (act.loc i hi).1
  subst he
  refine wpAny_storeName_local (env := envOf name scope L a cd) hloc hm (fun h' hn' hs' => ?_) (by
    show (scope.kind == .class || (scope.kind == .module && L != mainGlobals)) = false
    rw [hkd]; rfl)
  have k' : ∀ b o, b ≠ L → s.heap.get? b = some o → h'.get? b = some o := fun b o hb e => (hs'.2 b hb).trans e
  have hfr : ∃ o, h'.get? L = some o ∧ ∀ vs, o.data ≠ .fields vs := by
    obtain ⟨o, es, ep, e1, e2, _⟩ := hn'
    exact ⟨o, e1, fun vs z => by rw [e2] at z; cases z⟩
  have iv := g.inv.turn (s' := { s with heap := h', toks := s.toks + 1 }) g.own k' rfl rfl hfr
  refine q _ (nx.turn h₀ iv k') ⟨iv, g.own, _, hn', fun j hj => ?_⟩ k'
  rw [List.length_set] at hj
  rw [set_def (by omega)]
  by_cases z : j = i
  · subst z
    rw [if_pos rfl, if_pos r.isDef]
    exact ⟨y, if_pos rfl, r.but g.own k'⟩
  · rw [if_neg z]
    have hne : N j ≠ N i := fun e => z (act.inj j i (by omega) hi e)
    have := hl j hj
    split
    · rename_i d
      rw [if_pos d] at this
      obtain ⟨x, h1, h2⟩ := this
      exact ⟨x, by simpa [hne] using h1, h2.but g.own k'⟩
    · rename_i d
      rw [if_neg d] at this
      simpa [hne] using this
end
end Mine
end
section
open PySem PySem.W PySem.Calls PyProof.Rows
set_option Elab.async false
set_option maxRecDepth 4000
set_option linter.all false
namespace Mine
section
variable {ks : Str → Option NameKind} {k : Nat}
noncomputable def X.isTup : X → Bool
  | .tup .. => true
  | _ => false
mutual
noncomputable def St.wf (ks : Str → Option NameKind) (k : Nat) : St → Bool
  | .assign i _ e _ => decide (i < k) && e.wf ks k
  | .unpack i j _ _ _ e _ => decide (i < k) && decide (j < k) && !e.isTup && e.wf ks k
  | .setsub o i _ e _ => o.wf ks k && i.wf ks k && e.wf ks k
  | .aug i _ _ e _ => decide (i < k) && e.wf ks k
  | .expr e _ => e.wf ks k
  | .ret e _ => e.wf ks k
  | .ifs t b o _ => t.wf ks k && b.wf ks k && o.wf ks k
  | .whil t b _ => t.wf ks k && b.wf ks k
  | .fore i _ it b _ => decide (i < k) && it.wf ks k && b.wf ks k
  | .brk _ => true
  | .cont _ => true
  | .raise a b _ _ _ => isGlob ks (S [83, 121, 110, 116, 97, 120, 68, 105, 101]) && a.wf ks k && b.wf ks k
  | .tryRet b nm _ e _ _ _ => isGlob ks (S [83, 121, 110, 116, 97, 120, 68, 105, 101]) && (match b with
      | .cons (.assign i _ e _) .nil => decide (i < k) && e.wf ks k
      | .cons (.expr e _) .nil => e.wf ks k
      | _ => false) && e.wf ks k && (match nm with | none => true | some n => decide (n < k))
noncomputable def Sts.wf (ks : Str → Option NameKind) (k : Nat) : Sts → Bool
  | .nil => true
  | .cons s b => s.wf ks k && b.wf ks k
end
end
theorem no_swap (N : Nat → Str) (e : X) (t : Option Expr) (l : Nat) (env : Env) : swapsWith (e.emb N) t l env = pure false := by cases e <;> rfl
section
variable {n : Nat} {C : CallP} {c : Cx} {A : Around} {env : Env} {N : Nat → Str} {L : Addr} {k : Nat} {σ : List V}
/-- an expression within a statement -/
theorem ev_ {s₀ s : Shared} {O₀ O : MH} {x : X} {K : V → MH → Prop} {E : Int → MH → Prop} {Q : Value → Shared → Prop} (hx : EvOk C c A env N L σ x) (nx : Next c s₀ O₀ s O) (g : Good c N L σ O s) (h : we C σ x O K E)
    (q : ∀ y s₁ v O₁, Next c s₀ O₀ s₁ O₁ → Next c s O s₁ O₁ → Rep c.w s₁.heap O₁ v y → Good c N L σ O₁ s₁ → K v O₁ → Q y s₁) : wpAny (model pg c.w) A (eval (x.emb N) env) Q (Fly c (.here L) s₀ O₀ E) s :=
  wpAny_mono (hx O s K E g h) (fun y s₁ ⟨v, O₁, n, r, k⟩ => q y s₁ v O₁ (nx.trans n) n r (g.next n) k) fun _ _ f => (f.from nx).here
theorem tst_ {s₀ s : Shared} {O₀ O : MH} {x : X} {K : Bool → MH → Prop} {E : Int → MH → Prop} {Q : Bool → Shared → Prop} (hx : TstOk C c A env N L σ x) (nx : Next c s₀ O₀ s O) (g : Good c N L σ O s) (h : we C σ x O (fun v O₁ => asB v fun b => K b O₁) E)
    (q : ∀ b s₁ O₁, Next c s₀ O₀ s₁ O₁ → Good c N L σ O₁ s₁ → K b O₁ → Q b s₁) : wpAny (model pg c.w) A (isTrue (x.emb N) env (eval (x.emb N) env)) Q (Fly c (.here L) s₀ O₀ E) s :=
  wpAny_mono (hx O s K E g h) (fun b s₁ ⟨O₁, n, k⟩ => q b s₁ O₁ (nx.trans n) (g.next n) k) fun _ _ f => (f.from nx).here

noncomputable abbrev StOk (C : CallP) (c : Cx) (A : Around) (env : Env) (N : Nat → Str) (L : Addr) (k : Nat) (st : St) : Prop :=
  ∀ (s₀ : Shared) (O₀ : MH) (σ : List V) (O : MH) (s : Shared) (K : Fl → List V → MH → Prop) (E : Int → MH → Prop), c.B.StaysIn s₀.heap → s₀.heap.get? L = none → σ.length = k → Next c s₀ O₀ s O → Good c N L σ O s →
    ws C st σ O K E → wpAny (model pg c.w) A (exec (st.emb N) env) (FlOk c N L k s₀ O₀ K) (Fly c (.here L) s₀ O₀ E) s
noncomputable abbrev StsOk (C : CallP) (c : Cx) (A : Around) (env : Env) (N : Nat → Str) (L : Addr) (k : Nat) (st : Sts) : Prop :=
  ∀ (s₀ : Shared) (O₀ : MH) (σ : List V) (O : MH) (s : Shared) (K : Fl → List V → MH → Prop) (E : Int → MH → Prop), c.B.StaysIn s₀.heap → s₀.heap.get? L = none → σ.length = k → Next c s₀ O₀ s O → Good c N L σ O s →
    wsb C st σ O K E → wpAny (model pg c.w) A (execs (st.emb N) env) (FlOk c N L k s₀ O₀ K) (Fly c (.here L) s₀ O₀ E) s

variable (hC : CallsAt c A C) (hh : A.handled = none) (act : Act n c A env N L k)
include hC hh act

theorem assign_ok {i : Nat} {q p : Pos} {e : X} (hi : i < k) (he : e.wf env.kindOf k = true) : StOk C c A env N L k (.assign i q e p) := fun s₀ O₀ σ O s K E hst h₀ hk nx g h => by
  simp only [ws] at h
  refine wpAny_Assign_Name (ev_ (we_ok hC act hk e he).1 nx g h fun y s₁ v O₁ n₁ _ r₁ g₁ h₁ => ?_) (no_swap ..)
  exact store_ok act h₀ n₁ g₁ hk hi r₁ fun s' n' g' _ => ⟨O₁, n', _, g', by rw [List.length_set]; exact hk, h₁⟩
theorem expr_ok {p : Pos} {e : X} (he : e.wf env.kindOf k = true) : StOk C c A env N L k (.expr e p) := fun s₀ O₀ σ O s K E hst h₀ hk nx g h => by
  simp only [ws] at h
  have hint : interactive env = false := by
    obtain ⟨name, scope, a, cd, rfl, hkd⟩ := act.shape
    show (scope.kind == .module && _) = false
    rw [hkd]; rfl
  exact wpAny_Expr_any (ev_ (we_ok hC act hk e he).1 nx g h fun y s₁ v O₁ n₁ _ r₁ g₁ h₁ => ⟨O₁, n₁, _, g₁, hk, h₁⟩) hint (no_swap ..)
theorem ret_ok {p : Pos} {e : X} (he : e.wf env.kindOf k = true) : StOk C c A env N L k (.ret e p) := fun s₀ O₀ σ O s K E hst h₀ hk nx g h => by
  simp only [ws] at h
  exact wpAny_Return_some (ev_ (we_ok hC act hk e he).1 nx g h fun y s₁ v O₁ n₁ _ r₁ g₁ h₁ => ⟨O₁, n₁, _, _, r₁, h₁⟩)
theorem aug_ok {i : Nat} {q p : Pos} {o : Operator} {e : X} (hi : i < k) (he : e.wf env.kindOf k = true) : StOk C c A env N L k (.aug i q o e p) := fun s₀ O₀ σ O s K E hst h₀ hk nx g h => by
  simp only [ws] at h
  replace h := onDef_ok h
  refine wpAny_AugAssign_Name (act.local g hk h.1 fun x r => ev_ (we_ok hC act hk e he).1 nx g h.2 fun y s₁ v O₁ n₁ n' r₁ g₁ h₁ => ?_)
  have r' := n'.rep r
  have fin : ∀ {v' : V} {y' : Value} {t : Nat}, Rep c.w s₁.heap O₁ v' y' → K .next (σ.set i v') O₁ → wpAny (model pg c.w) A (storeName env (N i) y') (fun _ => FlOk c N L k s₀ O₀ K .next) (Fly c (.here L) s₀ O₀ E) { s₁ with toks := t } := fun {v' y' t} r hk' =>
    store_ok act h₀ (n₁.trans (g₁.inv.pure (.toks _ t))) (g₁.next (g₁.inv.pure (.toks _ t))) hk hi r fun s' n'' g' _ => ⟨O₁, n'', _, g', by rw [List.length_set]; exact hk, hk'⟩
  generalize gv σ i = v₀ at r' h₁
  cases o with
  | Add =>
    cases v₀ with
    | int a =>
      cases v with
      | int b =>
        obtain ⟨t, rfl⟩ := r'; obtain ⟨u, rfl⟩ := r₁
        exact P.iadd_int (fin (v' := .int (a + b)) ⟨_, rfl⟩ h₁)
      | _ => exact h₁.elim
    | str a =>
      cases v with
      | str b =>
        obtain ⟨hx, t, rfl⟩ := r'; obtain ⟨hy, u, rfl⟩ := r₁
        refine PyProof.Rows.iadd_str (fun t' tk => fin (v' := .str (a ++ b)) ⟨by simpa using h₁.1, t', by rw [str_app]⟩ h₁.2) ?_
        rw [str_len, str_len]; have := h₁.1; rw [SZ_eq] at this; show _ ≤ 2 ^ 24; omega
      | _ => exact h₁.elim
    | _ => exact h₁.elim
  | Sub =>
    cases v₀ with
    | int a =>
      cases v with
      | int b =>
        obtain ⟨t, rfl⟩ := r'; obtain ⟨u, rfl⟩ := r₁
        exact P.isub_int (fin (v' := .int (a - b)) ⟨_, rfl⟩ h₁)
      | _ => exact h₁.elim
    | _ => exact h₁.elim
  | _ => exact h₁.elim
theorem ifs_ok {p : Pos} {t : X} {b o : Sts} (ht : t.wf env.kindOf k = true) (hb : StsOk C c A env N L k b) (ho : StsOk C c A env N L k o) : StOk C c A env N L k (.ifs t b o p) := fun s₀ O₀ σ O s K E hst h₀ hk nx g h => by
  simp only [ws] at h
  refine wpAny_If (tst_ (K := fun c O₁ => if c = true then wsb C b σ O₁ K E else wsb C o σ O₁ K E) (we_ok hC act hk t ht).2 nx g h fun r s₁ O₁ n₁ g₁ h₁ => ?_)
  cases r with
  | true => exact hb s₀ O₀ σ O₁ s₁ K E hst h₀ hk n₁ g₁ h₁
  | false => exact ho s₀ O₀ σ O₁ s₁ K E hst h₀ hk n₁ g₁ h₁
theorem whil_ok {p : Pos} {t : X} {b : Sts} (ht : t.wf env.kindOf k = true) (hb : StsOk C c A env N L k b) : StOk C c A env N L k (.whil t b p) := fun s₀ O₀ σ O s K E hst h₀ hk nx g h => by
  simp only [ws] at h
  obtain ⟨I, ⟨m, hI⟩, hstep⟩ := h
  refine wpAny_While (codeAny_whileLoop (fun m s' => ∃ σ' O', Next c s₀ O₀ s' O' ∧ Good c N L σ' O' s' ∧ σ'.length = k ∧ I m σ' O') (fun m s' ⟨σ', O', n', g', hk', hI'⟩ => ?_) m ⟨σ, O, nx, g, hk, hI⟩)
  refine wpAny_mono (tst_ (K := fun c O₁ => if c = true then wsb C b σ' O₁ (loopK (fun σ' O' => ∃ m', m' < m ∧ I m' σ' O') K) E else K .next σ' O₁) (we_ok hC act hk' t ht).2 n' g' (hstep m σ' O' hI') fun r s₁ O₁ n₁ g₁ h₁ => (⟨O₁, n₁, g₁, h₁⟩ : ∃ O₁, Next c s₀ O₀ s₁ O₁ ∧ Good c N L σ' O₁ s₁ ∧ if r = true then wsb C b σ' O₁ (loopK (fun σ' O' => ∃ m', m' < m ∧ I m' σ' O') K) E else K .next σ' O₁)) (fun r s₁ ⟨O₁, n₁, g₁, h₁⟩ => ?_) fun ex s₁ f => loop_ok act hst f
  cases r with
  | false =>
    rw [if_neg (by decide)] at h₁ ⊢
    exact wpAny_execs_nil ⟨O₁, n₁, _, g₁, hk', h₁⟩
  | true =>
    rw [if_pos rfl] at h₁ ⊢
    refine wpAny_mono (hb s₀ O₀ σ' O₁ s₁ _ E hst h₀ hk' n₁ g₁ h₁) (fun f s₂ ⟨O₂, n₂, h₂⟩ => ?_) fun ex s₁ f => loop_ok act hst f
    cases f with
    | next => obtain ⟨σ₂, g₂, hk₂, m', hm, hI₂⟩ := h₂; exact ⟨m', hm, σ₂, O₂, n₂, g₂, hk₂, hI₂⟩
    | cont => obtain ⟨σ₂, g₂, hk₂, m', hm, hI₂⟩ := h₂; exact ⟨m', hm, σ₂, O₂, n₂, g₂, hk₂, hI₂⟩
    | brk => obtain ⟨σ₂, g₂, hk₂, hI₂⟩ := h₂; exact ⟨O₂, n₂, σ₂, g₂, hk₂, hI₂⟩
    | ret y => obtain ⟨σ₂, v, r₂, hI₂⟩ := h₂; exact ⟨O₂, n₂, σ₂, v, r₂, hI₂⟩
end
end Mine
end
section
open PySem PySem.W PySem.Calls PyProof.Rows
set_option Elab.async false
set_option maxRecDepth 4000
set_option linter.all false
namespace Mine
section
variable {w : World} {A : Around} {E : Value → Shared → Prop} {s : Shared}
theorem setItem_own {l : Addr} {items : Array Value} {k : Int} {t : Tok} {v : Value} {Q : Unit → Shared → Prop} (hl : PlainL s.heap l items)
    (h0 : 0 ≤ k) (hfit : k < 2 ^ 63) (hn : k < items.size)
    (hQ : ∀ h', PlainL h' l (items.setIfInBounds k.toNat v) → Heap.SameBut l s.heap h' → Q () { s with heap := h' }) :
    wpAny (model pg w) A (setItem (.ref l) (.int k t) v) Q E s := by
  obtain ⟨o, ne, ho, hc, hdn, hd⟩ := id hl
  have hT := hl.isList.typeIs (s := s)
  unfold setItem
  try with_reducible refine wpAny_holding ?_
  first | refine wpAny_bind (wpAny_pure ?_) | skip
  refine wpAny_bind (wpAny_sequenceKey hT (by decide) ?_)
  refine wpAny_bind (wpAny_callSpecial?_slot (name := Str.ofString "__setitem__") hT slot_list_setitem
    (wpAny_call_entry slot_list_setitem hT entry_list_setitem ?_ (args_list_setitem _ _ _)))
  show wpAny _ _ (Builtin.List.listSubscript? (.int k t) >>= _) _ _ s
  refine wpAny_bind (wpAny_listSubscript_int (fitsIndex_of h0 hfit) ?_)
  clear hfit
  obtain ⟨j, rfl⟩ := Int.eq_ofNat_of_zero_le h0
  have hj : j < items.size := by omega
  have hx' : items[j]? = some items[j] := Array.getElem?_eq_getElem hj
  show wpAny _ _ ((seqItemAt l j >>= fun r => pure (r.map (j, ·))) >>= _) _ _ s
  refine wpAny_bind (wpAny_bind (wpAny_seqItemAt ho hd (wpAny_pure ?_)))
  rw [hx']
  show wpAny _ _ (setSeqItemAt l j v >>= _) _ _ s
  have hfin : PlainL (s.heap.update l (Obj.mapSeq (·.setIfInBounds j v))) l (items.setIfInBounds j v) := PlainL.of_update ho hc hdn hd rfl
  refine wpAny_bind (wpAny_setSeqItemAt ho hd ?_)
  first
    | exact wpAny_bind (wpAny_pure (wpAny_pure ⟨.none, rfl, wpAny_pure (hQ _ hfin (Heap.SameBut.update ..))⟩))
    | exact wpAny_pure ⟨.none, rfl, wpAny_pure (hQ _ hfin (Heap.SameBut.update ..))⟩

theorem unpackItems_pair {t : Addr} {x y : Value} {Q : List Value → Shared → Prop} (hh : A.handled = none) (ht : s.heap.IsList t #[x, y])
    (hQ : ∀ h', Heap.ExtBut s.heap.objs.size s.heap h' → Q [x, y] { s with heap := h' }) : wpAny (model pg w) A (unpackItems (.ref t) 2 none) Q E s := by
  have hlt : t ≠ s.heap.objs.size := by obtain ⟨o, ho, _⟩ := ht; exact Nat.ne_of_lt (Heap.lt_size ho)
  have ht₀ : ∀ o, (s.heap.push o).IsList t #[x, y] := fun o => let ⟨p, hp, r⟩ := ht; ⟨p, Heap.get?_push_of_some _ hp, r⟩
  unfold unpackItems
  refine wpAny_bind ?_
  unfold notIterableAtAll
  refine wpAny_bind (wpAny_specialOf ht.typeIs slot_list_iter.lookup ?_)
  refine wpAny_pure ?_
  simp only [Bool.false_eq_true, if_false]
  refine wpAny_bind (wpAny_holding (wpAny_pyIter_list ht ?_))
  refine wpAny_bind (wpAny_holding ?_)
  have it₀ : Heap.IsListIter (s.heap.push { cls := .type "list_iterator", data := .fields #[.ref t, .int 0 0] }) s.heap.objs.size t 0 := ⟨_, Heap.get?_push_size _ rfl, rfl, rfl⟩
  show wpAny _ _ (pyNext (.ref s.heap.objs.size) >>= _) _ _ _
  refine wpAny_bind (wpAny_pyNext_list_item it₀ (ht₀ _) (x := x) rfl fun h₁ it₁ s₁ => wpAny_bind (wpAny_holding ?_))
  have l₁ : h₁.IsList t #[x, y] := (ht₀ _).extBut s₁.extBut hlt
  show wpAny _ _ (pyNext (.ref s.heap.objs.size) >>= _) _ _ _
  refine wpAny_bind (wpAny_pyNext_list_item it₁ l₁ (x := y) rfl fun h₂ it₂ s₂ => wpAny_bind (wpAny_holding ?_))
  have l₂ : h₂.IsList t #[x, y] := l₁.extBut s₂.extBut hlt
  refine wpAny_pure (wpAny_pure (wpAny_pure ?_))
  simp only [List.length_cons, List.length_nil]
  rw [if_neg (by decide)]
  refine wpAny_bind (wpAny_holding (wpAny_pyNext_list_end hh it₂ l₂ rfl fun h₃ e₃ => ?_))
  simp only [Option.isSome_none, Bool.false_eq_true, if_false]
  exact wpAny_pure (hQ h₃ fun b o hb e => e₃ b o hb (s₂.extBut b o hb (s₁.extBut b o hb (Heap.get?_push_of_some _ e))))
end
section
variable {n : Nat} {C : CallP} {c : Cx} {A : Around} {env : Env} {N : Nat → Str} {L : Addr} {k : Nat} {σ : List V}
theorem pure_fresh {c : Cx} {O : MH} {s : Shared} {h' : Heap} (i : Inv c O s) (e : Heap.ExtBut s.heap.objs.size s.heap h') (t : Nat) : Pure s { s with heap := h', toks := t } :=
  .heap (fun b o q => e b o (Nat.ne_of_lt (Heap.lt_size q)) q) t
variable (hC : CallsAt c A C) (hh : A.handled = none) (act : Act n c A env N L k)
include hC hh act
theorem setsub_ok {o i e : X} {t p : Pos} (ho : o.wf env.kindOf k = true) (hi : i.wf env.kindOf k = true) (he : e.wf env.kindOf k = true) : StOk C c A env N L k (.setsub o i t e p) := fun s₀ O₀ σ O s K E hst h₀ hk nx g h => by
  simp only [ws] at h
  refine wpAny_Assign_Subscript (ev_ (we_ok hC act hk e he).1 nx g h fun y s₁ v O₁ n₁ _ r₁ g₁ h₁ => ev_ (we_ok hC act hk o ho).1 n₁ g₁ h₁ fun z s₂ vo O₂ n₂ m₂ r₂ g₂ h₂ => ev_ (we_ok hC act hk i hi).1 n₂ g₂ h₂ fun u s₃ vi O₃ n₃ m₃ r₃ g₃ h₃ => ?_) (no_swap ..)
  cases vo <;> first | exact h₃.elim | skip
  rename_i a
  obtain ⟨j, tj, rfl, rfl, l, hO, j0, jl, hK⟩ := asI_elim r₃ h₃
  obtain rfl : z = .ref a := r₂
  obtain ⟨xs, hp, hs, hr⟩ := g₃.inv.lists a l hO
  have hlen := hr.length
  have hs' := hs
  rw [SZ_eq] at hs'
  refine setItem_own hp j0 (by omega) (by rw [List.size_toArray]; omega) fun h' hp' hs'' => ?_
  have e1 : xs.toArray.setIfInBounds j.toNat y = (xs.set j.toNat y).toArray := by simp
  rw [e1] at hp'
  have st := g₃.inv.store (s' := { s₃ with heap := h' }) (l' := l.set j.toNat v) hO hs'' rfl rfl hp' (by rw [List.length_set]; exact hs) (hr.set _ (m₃.rep (m₂.rep r₁)))
  exact ⟨_, n₃.trans st, σ, g₃.next st, hk, hK⟩
theorem two_ok {s₀ s : Shared} {O₀ O : MH} {i j : Nat} {q q' : Pos} {a b : V} {x y : Value} {K : Fl → List V → MH → Prop} {E : Value → Shared → Prop} (h₀ : s₀.heap.get? L = none) (hk : σ.length = k) (nx : Next c s₀ O₀ s O) (g : Good c N L σ O s) (hi : i < k) (hj : j < k) (ra : Rep c.w s.heap O a x) (rb : Rep c.w s.heap O b y)
    (h : K .next ((σ.set i a).set j b) O) : wpAny (model pg c.w) A (assignInOrder ((assignEach [.Name (N i) q, .Name (N j) q'] env).map (·.2)) [x, y]) (fun _ => FlOk c N L k s₀ O₀ K .next) E s := by
  show wpAny _ _ (do holding [y] (assign (.Name (N i) q) env x); holding [] (assign (.Name (N j) q') env y); pure ()) _ _ _
  refine wpAny_bind (wpAny_holding (PyProof.Rows.assign_Name (store_ok act h₀ nx g hk hi ra fun s₁ n₁ g₁ k₁ => ?_)))
  refine wpAny_bind (wpAny_holding (PyProof.Rows.assign_Name (store_ok act h₀ n₁ g₁ (by rw [List.length_set]; exact hk) hj (rb.but g.own k₁) fun s₂ n₂ g₂ k₂ => ?_)))
  exact wpAny_pure ⟨O, n₂, _, g₂, by rw [List.length_set, List.length_set]; exact hk, h⟩
theorem unpack_ok {i j : Nat} {q q' t p : Pos} {e : X} (hi : i < k) (hj : j < k) (ht : e.isTup = false) (he : e.wf env.kindOf k = true) : StOk C c A env N L k (.unpack i j q q' t e p) := fun s₀ O₀ σ O s K E hst h₀ hk nx g h => by
  simp only [ws] at h
  refine Assign_Tuple (ev_ (we_ok hC act hk e he).1 nx g h fun y s₁ v O₁ n₁ _ r₁ g₁ h₁ => ?_) (by cases e <;> rfl) (by cases e <;> first | rfl | cases ht)
  cases v <;> first | exact h₁.elim | skip
  · rename_i l
    obtain ⟨a, b, rfl⟩ : ∃ a b, l = [a, b] := by
      match l, h₁ with
      | [a, b], _ => exact ⟨a, b, rfl⟩
    obtain ⟨ad, xs, rfl, hT, hn, hl, x1, r1, rfl, ha, x2, r2, rfl, hb, rfl⟩ := r₁
    refine assign_Tuple_tuple hh hT rfl rfl fun h' e' => ?_
    have pn := g₁.inv.pure (pure_fresh g₁.inv e' s₁.toks)
    exact two_ok hC hh act h₀ hk (n₁.trans pn) (g₁.next pn) hi hj (pn.rep ha) (pn.rep hb) h₁
  · rename_i ad
    obtain ⟨a, b, hO, hK⟩ := h₁
    obtain rfl : y = .ref ad := r₁
    obtain ⟨xs, hp, hs, x1, r1, rfl, ha, x2, r2, rfl, hb, rfl⟩ := g₁.inv.lists ad _ hO
    rw [assign_Tuple]
    refine wpAny_bind (wpAny_standAt ?_)
    unfold unpack
    show wpAny _ _ (do assignInOrder _ (← holding [.ref ad] (unpackItems (.ref ad) 2 none))) _ _ _
    refine wpAny_bind (wpAny_holding (unpackItems_pair hh hp.isList fun h' e' => ?_))
    have pn := g₁.inv.pure (pure_fresh g₁.inv e' s₁.toks)
    exact two_ok hC hh act h₀ hk (n₁.trans pn) (g₁.next pn) hi hj (pn.rep ha) (pn.rep hb) hK
end
end Mine
end
section
open PySem PySem.W PySem.Calls PyProof.Rows
set_option Elab.async false
set_option maxRecDepth 4000
set_option linter.all false
namespace Mine
section
variable {n : Nat} {C : CallP} {c : Cx} {A : Around} {env : Env} {N : Nat → Str} {L : Addr} {k : Nat} {σ : List V}
theorem Good.bump {O : MH} {s s' : Shared} (g : Good c N L σ O s) (bm : Bump O s.heap s'.heap) (kl : ∀ o, s.heap.get? L = some o → s'.heap.get? L = some o) (iv : Inv c O s') : Good c N L σ O s' := by
  obtain ⟨m, hm, hl⟩ := g.locs
  refine ⟨iv, g.own, m, hm.at' kl, fun i hi => ?_⟩
  have := hl i hi
  split
  · rename_i q
    rw [if_pos q] at this
    obtain ⟨x, h1, h2⟩ := this
    exact ⟨x, h1, h2.bump bm⟩
  · rename_i q
    rw [if_neg q] at this
    exact this
/-- an iterator's step changes the iterator alone -/
theorem bump_iter {O : MH} {h h' : Heap} {I : Addr} {o : Obj} {vs : Array Value} (ho : h.get? I = some o) (hd : o.data = .fields vs) (h1 : o.cls ≠ .type "range") (h2 : o.cls ≠ .ref 51) (hO : O I = none)
    (k : ∀ b p, b ∉ [I] → h.get? b = some p → h'.get? b = some p) : Bump O h h' := fun b p e => by
  by_cases q : b = I
  · subst q
    rw [ho] at e; cases e
    exact ⟨fun q => (by rw [hO] at q; cases q), fun l q => (by rw [hO] at q; cases q), fun _ => .inr ⟨⟨vs, hd⟩, h1, .inr h2⟩⟩
  · have e' := k b p (by simpa using q) e
    exact ⟨fun _ => ⟨p.slots, e'⟩, fun _ _ => e', fun _ => .inl e'⟩
structure IterAt (h : Heap) (O : MH) (I : Addr) (fp : List Addr) : Prop where
  it : ∃ o vs, h.get? I = some o ∧ o.data = .fields vs ∧ o.cls ≠ .type "range" ∧ o.cls ≠ .ref 51
  fp : ∀ b ∈ fp, O b = none ∧ ∃ o, h.get? b = some o
  own : O I = none
variable (hC : CallsAt c A C) (hh : A.handled = none) (act : Act n c A env N L k)
include hC hh act
theorem walk_ok {i : Nat} {q : Pos} {b : Sts} (hi : i < k) (hb : StsOk C c A env N L k b) {I : Addr} {fp : List Addr} {P : Nat → Value → Prop} {St : Nat → Heap → Prop} {items : List V} {s₀ : Shared} {O₀ : MH} {K : Fl → List V → MH → Prop} {E : Int → MH → Prop}
    (W : Walks pg c.w A I fp [I] items.length P St) (hst : c.B.StaysIn s₀.heap) (h₀ : s₀.heap.get? L = none) (hI₀ : s₀.heap.get? I = none)
    (hSt : ∀ j h, St j h → ∃ o vs, h.get? I = some o ∧ o.data = .fields vs ∧ o.cls ≠ .type "range" ∧ o.cls ≠ .ref 51)
    (J : List V → List V → MH → Prop) (step : ∀ x r σ O, J (x :: r) σ O → wsb C b (σ.set i x) O (loopK (J r) K) E) (fin : ∀ σ O, J [] σ O → K .next σ O)
    {σ : List V} {O : MH} {s : Shared} (hk : σ.length = k) (nx : Next c s₀ O₀ s O) (g : Good c N L σ O s) (st : St 0 s.heap) (ia : IterAt s.heap O I fp) (hr : ∀ j v y, P j y → items[j]? = some v → Rep c.w s.heap O v y) (hJ : J items σ O) :
    codeAny (model pg c.w) A (.forLoop (.Name (N i) q) (.ref I) (b.emb N) [] env) (fun r s' => match r with | .ok f => FlOk c N L k s₀ O₀ K f s' | .error e => cameBackBy (model pg c.w) A env (Fly c (.here L) s₀ O₀ E) e s') s := by
  refine codeAny_forLoop (fun m s' => ∃ j σ' O', m = items.length + 1 - j ∧ j ≤ items.length ∧ Next c s₀ O₀ s' O' ∧ Good c N L σ' O' s' ∧ σ'.length = k ∧ St j s'.heap ∧ IterAt s'.heap O' I fp ∧
    (∀ j v y, P j y → items[j]? = some v → Rep c.w s'.heap O' v y) ∧ J (items.drop j) σ' O') (fun m s₁ h => ?_) (items.length + 1) ⟨0, σ, O, rfl, Nat.zero_le _, nx, g, hk, st, ia, hr, hJ⟩
  obtain ⟨j, σ₁, O₁, rfl, hj, n₁, g₁, hk₁, st₁, ia₁, hr₁, hJ₁⟩ := h
  obtain ⟨o, vs, ho, hd, hc1, hc2⟩ := ia₁.it
  have hLI : L ≠ I := by rintro rfl; have := g₁.own; rw [ia₁.own] at this; cases this
  have moved : ∀ (h' : Heap) (tk : Nat), (∀ b o, b ∉ [I] → s₁.heap.get? b = some o → h'.get? b = some o) → Next c s₀ O₀ { s₁ with heap := h', toks := tk } O₁ ∧ Good c N L σ₁ O₁ { s₁ with heap := h', toks := tk } ∧ Bump O₁ s₁.heap h' := fun h' tk kp => by
    have bm := bump_iter ho hd hc1 hc2 ia₁.own kp
    have n₂ : Next c s₀ O₀ { s₁ with heap := h' } O₁ := n₁.bump hst bm fun b o o' e e' _ => kp b o (by simp; rintro rfl; rw [hI₀] at e; cases e) e'
    have n₃ := n₂.trans (n₂.inv.pure (.toks _ tk))
    exact ⟨n₃, g₁.bump bm (fun o e => kp L o (by simpa using hLI) e) n₃.inv, bm⟩
  by_cases hlt : j < items.length
  · refine W.item j s₁ _ _ hlt st₁ fun y h' tk hP st₂ kp => ?_
    obtain ⟨n₂, g₂, bm⟩ := moved h' tk kp
    have hx : items[j]? = some items[j] := List.getElem?_eq_getElem hlt
    have r₂ := (hr₁ j _ y hP hx).bump bm
    have ia₂ : IterAt h' O₁ I fp := ⟨hSt _ _ st₂, fun b hb => ⟨(ia₁.fp b hb).1, by
      by_cases z : b = I
      · subst z; obtain ⟨o, _, e, _⟩ := hSt _ _ st₂; exact ⟨o, e⟩
      · obtain ⟨p, e⟩ := (ia₁.fp b hb).2; exact ⟨p, kp b p (by simpa using z) e⟩⟩, ia₁.own⟩
    refine wpAny_assign_Name (store_ok act h₀ n₂ g₂ hk₁ hi r₂ fun s₃ n₃ g₃ k₃ => ?_)
    have nL : ∀ b, O₁ b = none → b ≠ L := fun b e => by rintro rfl; rw [g₃.own] at e; cases e
    have st₃ : St (j + 1) s₃.heap := W.frame _ _ _ st₂ fun b hb o e => k₃ b o (nL b (ia₁.fp b hb).1) e
    have hdrop : items.drop j = items[j] :: items.drop (j + 1) := List.drop_eq_getElem_cons hlt
    rw [hdrop] at hJ₁
    refine wpAny_mono (hb (cut L s₃) O₁ (σ₁.set i items[j]) O₁ s₃ _ E (cut_stays g₃.inv g₃.own) (cut_none L s₃) (by rw [List.length_set]; exact hk₁) g₃.inv.cut g₃ (step _ _ _ _ hJ₁)) (fun f s₄ ⟨O₄, n₄, h₄⟩ => ?_) fun ex s' f => loop_ok act hst (f.via n₃ h₀)
    have n₄' := n₃.via h₀ n₄
    have kept : ∀ b o, O₁ b = none → s₃.heap.get? b = some o → s₄.heap.get? b = some o := fun b o e e' => (n₄.kept b o (by rw [cut_ne s₃ (nL b e)]; exact e')).1 e
    have non : ∀ b o, O₁ b = none → s₃.heap.get? b = some o → O₄ b = none := fun b o e e' => (n₄.grow.non (by rw [cut_ne s₃ (nL b e)]; exact e')).mpr e
    have again : ∀ σ₄, Good c N L σ₄ O₄ s₄ → σ₄.length = k → J (items.drop (j + 1)) σ₄ O₄ → ∃ m, m < items.length + 1 - j ∧ ∃ j σ' O', m = items.length + 1 - j ∧ j ≤ items.length ∧ Next c s₀ O₀ s₄ O' ∧ Good c N L σ' O' s₄ ∧ σ'.length = k ∧ St j s₄.heap ∧ IterAt s₄.heap O' I fp ∧
        (∀ j v y, P j y → items[j]? = some v → Rep c.w s₄.heap O' v y) ∧ J (items.drop j) σ' O' := fun σ₄ g₄ hk₄ hJ₄ => by
      have there : ∀ b ∈ fp, ∃ o, s₃.heap.get? b = some o := fun b hb => by
        obtain ⟨p, e⟩ := (ia₂.fp b hb).2
        exact ⟨p, k₃ b p (nL b (ia₁.fp b hb).1) e⟩
      refine ⟨items.length + 1 - (j + 1), by omega, j + 1, σ₄, O₄, rfl, hlt, n₄', g₄, hk₄, W.frame _ _ _ st₃ fun b hb o e => kept b o (ia₁.fp b hb).1 e, ⟨?_, fun b hb => ?_, ?_⟩, fun j' v y' hP' hv => ?_, hJ₄⟩
      · obtain ⟨p, ws, e, r⟩ := ia₂.it
        exact ⟨p, ws, kept I p ia₁.own (k₃ I p (Ne.symm hLI) e), r⟩
      · obtain ⟨p, e⟩ := there b hb
        exact ⟨non b p (ia₁.fp b hb).1 e, p, kept b p (ia₁.fp b hb).1 e⟩
      · obtain ⟨p, ws, e, r⟩ := ia₂.it
        exact non I p ia₁.own (k₃ I p (Ne.symm hLI) e)
      · have r := ((hr₁ j' v y' hP' hv).bump bm).but g₃.own k₃
        exact n₄.rep (r.but (h' := (cut L s₃).heap) g₃.own fun b o hb e => by rw [cut_ne s₃ hb]; exact e)
    cases f with
    | next => obtain ⟨σ₄, g₄, hk₄, hJ₄⟩ := h₄; exact again σ₄ g₄ hk₄ hJ₄
    | cont => obtain ⟨σ₄, g₄, hk₄, hJ₄⟩ := h₄; exact again σ₄ g₄ hk₄ hJ₄
    | brk => obtain ⟨σ₄, g₄, hk₄, hJ₄⟩ := h₄; exact ⟨O₄, n₄', σ₄, g₄, hk₄, hJ₄⟩
    | ret y => obtain ⟨σ₄, v, r₄, hJ₄⟩ := h₄; exact ⟨O₄, n₄', σ₄, v, r₄, hJ₄⟩
  · obtain rfl : j = items.length := by omega
    refine W.done s₁ _ _ st₁ fun h' tk kp => ?_
    obtain ⟨n₂, g₂, bm⟩ := moved h' tk kp
    rw [List.drop_length] at hJ₁
    exact wpAny_execs_nil ⟨O₁, n₂, σ₁, g₂, hk₁, fin _ _ hJ₁⟩
theorem fore_ok {i : Nat} {q p : Pos} {it : X} {b : Sts} (hi : i < k) (hit : it.wf env.kindOf k = true) (hb : StsOk C c A env N L k b) : StOk C c A env N L k (.fore i q it b p) := fun s₀ O₀ σ O s K E hst h₀ hk nx g h => by
  simp only [ws] at h
  refine wpAny_For (ev_ (we_ok hC act hk it hit).1 nx g h fun y s₁ v O₁ n₁ _ r₁ g₁ h₁ => ?_) (by cases it <;> (intro x; rfl))
  obtain ⟨items, hits, J, hJ, step, fin⟩ := h₁
  have new : s₀.heap.get? s₁.heap.objs.size = none := n₁.stands.none (size_none _)
  have ownN : O₁ s₁.heap.objs.size = none := g₁.inv.fresh (size_none _)
  have walk : ∀ {ob : Obj} {fp : List Addr} {P : Nat → Value → Prop} {St : Nat → Heap → Prop}, Walks pg c.w A s₁.heap.objs.size fp [s₁.heap.objs.size] items.length P St → St 0 (s₁.heap.push ob) →
      (∀ j h, St j h → ∃ o vs, h.get? s₁.heap.objs.size = some o ∧ o.data = .fields vs ∧ o.cls ≠ .type "range" ∧ o.cls ≠ .ref 51) → (∀ b ∈ fp, b = s₁.heap.objs.size ∨ O₁ b = none ∧ ∃ o, s₁.heap.get? b = some o) →
      (∀ j v y, P j y → items[j]? = some v → Rep c.w s₁.heap O₁ v y) →
      codeAny (model pg c.w) A (.forLoop (.Name (N i) q) (.ref s₁.heap.objs.size) (b.emb N) [] env) (fun r s' => match r with | .ok f => FlOk c N L k s₀ O₀ K f s' | .error e => cameBackBy (model pg c.w) A env (Fly c (.here L) s₀ O₀ E) e s') { s₁ with heap := s₁.heap.push ob } :=
    fun {ob fp P St} W st hSt hfp hr => by
      have pn := g₁.inv.pure (push_pure s₁ ob)
      refine walk_ok hC hh act hi hb W hst h₀ new hSt J step fin hk (n₁.trans pn) (g₁.next pn) st ⟨hSt _ _ st, fun b hb => ?_, ownN⟩ (fun j v y a b => pn.rep (hr j v y a b)) hJ
      rcases hfp b hb with rfl | ⟨e1, o, e2⟩
      · obtain ⟨o, _, e, _⟩ := hSt _ _ st
        exact ⟨ownN, o, e⟩
      · exact ⟨e1, o, Heap.get?_push_of_some _ e2⟩
  unfold itemsOf at hits
  split at hits
  · rename_i x
    cases hits
    obtain ⟨hx, t, rfl⟩ := r₁
    have hlen : (x.map fun c => V.str [c]).length = (⟨x.toArray⟩ : Str).cps.size := by simp
    have hrep : ∀ j v y, SignAt ⟨x.toArray⟩ j y → (x.map fun c => V.str [c])[j]? = some v → Rep c.w s₁.heap O₁ v y := fun j v y ⟨ch, u, e1, e2⟩ e3 => by
      simp only [List.getElem?_toArray] at e1
      rw [List.getElem?_map, e1] at e3
      cases e3
      exact ⟨by rw [SZ_eq]; simp, u, e2⟩
    cases ha : (⟨x.toArray⟩ : Str).cps.all (· < 128)
    · exact wpAny_pyIter_wide ha (walk (P := SignAt ⟨x.toArray⟩) (hlen ▸ Walks.strWide hh _ _ t) ⟨_, Heap.get?_push_size _ rfl, rfl, rfl⟩ (fun j h ⟨o, e1, e2, e3⟩ => ⟨o, _, e1, e3, by rw [e2]; decide, by rw [e2]; decide⟩) (fun b hb => .inl (by simpa using hb)) hrep)
    · exact wpAny_pyIter_ascii ha (walk (P := SignAt ⟨x.toArray⟩) (hlen ▸ Walks.strAscii hh _ _ t) ⟨_, Heap.get?_push_size _ rfl, rfl, rfl⟩ (fun j h ⟨o, e1, e2, e3⟩ => ⟨o, _, e1, e3, by rw [e2]; decide, by rw [e2]; decide⟩) (fun b hb => .inl (by simpa using hb)) hrep)
  · rename_i l
    cases hits
    obtain ⟨a, xs, rfl, hl, hn, hs, hr⟩ := r₁
    have hl' := hl
    obtain ⟨oa, hoa, _⟩ := hl'
    refine wpAny_pyIter_list hl (walk (fp := [s₁.heap.objs.size, a]) (P := fun i v => xs.toArray[i]? = some v) ((show xs.toArray.size = items.length by rw [List.size_toArray, hr.length]) ▸ Walks.list hh _ a (Nat.ne_of_lt (Heap.lt_size hoa)) xs.toArray)
      ⟨⟨_, Heap.get?_push_size _ rfl, rfl, rfl⟩, let ⟨o, e, r⟩ := hl; ⟨o, Heap.get?_push_of_some _ e, r⟩⟩ (fun j h ⟨⟨o, e1, e2, e3⟩, _⟩ => ⟨o, _, e1, e3, by rw [e2]; decide, by rw [e2]; decide⟩) (fun b hb => ?_) fun j v y e1 e2 => ?_)
    · simp only [List.mem_cons, List.not_mem_nil, or_false] at hb
      rcases hb with e | e
      · exact .inl e
      · subst e; exact .inr ⟨hn, oa, hoa⟩
    · obtain ⟨y', e3, r⟩ := hr.get e2
      rw [List.getElem?_toArray, e3] at e1
      cases e1
      exact r
  · rename_i lo hi
    split at hits
    · rename_i bd
      cases hits
      obtain ⟨a, t1, t2, t3, rfl, hn, ha⟩ := r₁
      refine wpAny_pyIter_range ha (small_one (by omega) (by omega) (by omega) (by omega)) ?_
      rw [rangeSize_nat]
      have hlen : ((List.range (hi - lo).toNat).map fun (k : Nat) => V.int (lo + (k : Int))).length = (hi - lo).toNat := by simp
      have W : Walks pg c.w A s₁.heap.objs.size [s₁.heap.objs.size] [s₁.heap.objs.size] ((List.range (hi - lo).toNat).map fun (k : Nat) => V.int (lo + (k : Int))).length (fun i v => ∃ t, v = .int (lo + i * 1) t)
          (fun i h => IsRangeIter h s₁.heap.objs.size (lo + (i : Nat) * 1) (((hi - lo).toNat : Int) - (i : Nat)) 1) := by
        rw [hlen]; exact Walks.range hh _ lo 1 _
      refine walk W ?_ (fun j h e => ⟨_, _, e, rfl, by show Value.type _ ≠ _; decide, by show Value.type _ ≠ _; decide⟩) (fun b hb => .inl (by simpa using hb)) fun j v y ⟨t, e1⟩ e2 => ?_
      · show Heap.get? _ _ = _
        rw [Heap.get?_push_size _ rfl]
        simp
      · rw [List.getElem?_map] at e2
        obtain ⟨r, e3, rfl⟩ := Option.map_eq_some_iff.mp e2
        obtain ⟨_, rfl⟩ := List.getElem?_eq_some_iff.mp e3
        subst e1
        exact ⟨t, by simp⟩
    · cases hits
  · cases hits
end
end Mine
end
section
open PySem PySem.W PySem.Calls PyProof.Rows
set_option Elab.async false
set_option maxRecDepth 4000
set_option linter.all false
namespace Mine
noncomputable abbrev dieS : Str := S [83, 121, 110, 116, 97, 120, 68, 105, 101]
noncomputable abbrev dieUp : List Value := [.ref 31, .type "Exception", .type "BaseException", .type "object"]
noncomputable abbrev c51 : Obj := excClassObj dieS dieS 51 50 [.ref 31] dieUp true [] [] false none none (some (.ref 35)) none (some (.str dieS 218)) (some (.str dieS 226)) (some (.bool true)) "Exception.__new__"
theorem K_51 (P : Params) : (K P).lookup 51 = some c51 := by kernel_rfl
theorem at_51 {c : Cx} {O : MH} {s : Shared} (i : Inv c O s) : s.heap.get? 51 = some c51 := i.stay _ _ (i.base.k _ _ (K_51 _))
theorem die_mem : (dieS, Value.ref 51) ∈ globRows := List.mem_of_getElem? (i := 37) rfl
section
variable {n : Nat} {C : CallP} {c : Cx} {A : Around} {env : Env} {N : Nat → Str} {L : Addr} {k : Nat} {σ : List V}
theorem noC_ok : CallsAt c A noC := fun _ _ _ _ _ h => h.elim
theorem Act.marked (act : Act n c A env N L k) (x : Option Value) : Act n c (A.mark x) env N L k := ⟨⟨act.ok.frames, act.ok.units, act.ok.depth⟩, act.shape, act.top, act.loc, act.inj⟩
theorem plain_rep {w : World} {h h' : Heap} {O O' : MH} {v : V} {x : Value} (hv : isRef v = false) (r : Rep w h O v x) : Rep w h' O' v x := by
  cases v <;> first | exact r | cases hv
theorem goes_ok {A' : Around} (act : Act n c A env N L k) {s₀ s : Shared} {O₀ O : MH} (h₀ : s₀.heap.get? L = none) (nx : Next c s₀ O₀ s O) (g : Good c N L σ O s) {i : Nat} (hi : i < k) {p : Pos} {Q : Unit → Shared → Prop} {E : Value → Shared → Prop}
    (q : ∀ s', Next c s₀ O₀ s' O → Q () s') : wpAny (model pg c.w) A' (do bindName env (N i) .none; unbindBehindTheSuite env (N i) p) Q E s := by
  obtain ⟨name, scope, a, cd, he, hkd⟩ := act.shape
  obtain ⟨m, hm, hl⟩ := g.locs
  have hloc := (act.loc i hi).1
  subst he
  refine wpAny_nameGoes (env := envOf name scope L a cd) hloc hm (by
    show (scope.kind == .class || (scope.kind == .module && L != mainGlobals)) = false
    rw [hkd]; rfl) fun h' m' hn' hs' => ?_
  have k' : ∀ b o, b ≠ L → s.heap.get? b = some o → h'.get? b = some o := fun b o hb e => (hs'.2 b hb).trans e
  have hfr : ∃ o, h'.get? L = some o ∧ ∀ vs, o.data ≠ .fields vs := by
    obtain ⟨o, es, ep, e1, e2, _⟩ := hn'
    exact ⟨o, e1, fun vs z => by rw [e2] at z; cases z⟩
  have iv := g.inv.turn (s' := { s with heap := h', toks := s.toks + 1 }) g.own k' rfl rfl hfr
  exact q _ (nx.turn h₀ iv k')
theorem Exc.die {h₀ h : Heap} {O : MH} {e : Addr} {line : Int} {md : Md} {w : World} (x : Exc h₀ h O e line md) : Rep w h O (.die line) (.ref e) := by
  obtain ⟨h1, dx, oe, vs, m, t, h2, h3, h4, h5, h6, h7, h8, h9, h10, h11⟩ := x
  exact ⟨e, dx, rfl, h2, h3, oe, vs, m, t, h4, h5, h6, h7, h9, h10⟩
theorem caught_ok (act : Act n c A env N L k) {nm : Option Nat} {q hp rp : Pos} {e' : X} (hg : isGlob env.kindOf dieS = true) (hn : ∀ i, nm = some i → i < k) (hw : e'.wf env.kindOf k = true)
    {s₀ s s₁ : Shared} {O₀ O : MH} (hk : σ.length = k) (h₀ : s₀.heap.get? L = none) (nx : Next c s₀ O₀ s O) (g : Good c N L σ O s) {K : Fl → List V → MH → Prop} {E' : Int → MH → Prop} {E : Value → Shared → Prop} {ex : Value}
    (f : Fly c .out s O E' ex s₁) (hE : ∀ i O₁, E' i O₁ → match nm with
      | none => we noC σ e' O₁ (fun v O₂ => K (.ret v) σ O₂) (fun _ _ => False)
      | some n => ∀ σ', σ' = σ.set n (.die i) → we noC σ' e' O₁ (fun v O₂ => isRef v = false ∧ K (.ret v) σ O₂) (fun _ _ => False)) :
    wpAny (model pg c.w) A (noteFrame ex env) (fun _ s₂ => wpAny (model pg c.w) A (setFlight ex none) (fun _ s₃ => wpAny (model pg c.w) A (handleBy ex env [.ExceptHandler (some (.Name dieS q)) (nm.map N) [.Return (some (e'.emb N)) rp] hp]) (FlOk c N L k s₀ O₀ K) E s₃) E s₂) E s₁ := by
  refine wpAny_mono (note_ok act g.inv.stay f.here (E' := E)) (fun _ s₂ f₂ => ?_) fun _ _ x => x
  refine wpAny_mono (flight_ok g.inv.stay none .out rfl (fun a e => nomatch e) f₂ (E' := E)) (fun _ s₃ f₃ => ?_) fun _ _ x => x
  have f₃' := f₃
  obtain ⟨e, line, O₃, rfl, n₃, hx, hE₃⟩ := f₃
  have act' := act.marked (some (.ref e))
  have mtch : ∀ {Q : Bool → Shared → Prop} {E : Value → Shared → Prop}, Q true s₃ → wpAny (model pg c.w) (A.mark (some (.ref e))) (excMatches (.ref e) (.ref 51)) Q E s₃ := fun z => by
    obtain ⟨h1, dx, oe, vs, m, t, h2, h3, h4, h5, _⟩ := hx
    exact wpAny_excMatches_sub_self (at_51 n₃.inv) h4 h5 rfl z
  have held : Fly c (.held L) s O E' (.ref e) s₃ := f₃'.md (md := .out) (md' := .held L) fun _ _ _ x => Traced.imp (fun _ e => .inl e) x
  refine wpAny_handleBy_cons (codeAny_handlers_test (act'.glob n₃.inv hg die_mem (mtch ?_))) (by intro z; cases z)
  have again : ∀ {Q : Unit → Shared → Prop} {E : Value → Shared → Prop}, (∀ s₄, Fly c .out s O E' (.ref e) s₄ → Q () s₄) → wpAny (model pg c.w) (A.mark (some (.ref e))) (setFlight (.ref e) none) Q E s₃ := fun z =>
    wpAny_mono (flight_ok g.inv.stay none .out rfl (fun a e => nomatch e) held) (fun _ s₄ f₄ => z s₄ f₄) fun _ _ x => x
  cases nm with
  | none =>
    refine codeAny_handlers_suite (again fun s₄ f₄ => ?_)
    obtain ⟨e₄, line₄, O₄, he₄, n₄, hx₄, hE₄⟩ := f₄
    refine wpAny_execs_cons (wpAny_Return_some (wpAny_mono ((we_ok noC_ok act' hk e' hw).1 O₄ s₄ _ _ (g.next n₄) (hE _ _ hE₄)) (fun y s₅ ⟨v, O₅, n₅, r₅, h₅⟩ => ?_) fun _ _ ⟨_, _, _, _, _, _, z⟩ => z.elim))
    exact ⟨O₅, (nx.trans n₄).trans n₅, σ, v, r₅, h₅⟩
  | some i =>
    refine codeAny_handlers_suite_as (again fun s₄ f₄ => ?_)
    obtain ⟨e₄, line₄, O₄, he₄, n₄, hx₄, hE₄⟩ := f₄
    cases he₄
    refine store_ok act h₀ (nx.trans n₄) (g.next n₄) hk (hn i rfl) hx₄.die fun s₅ n₅ g₅ k₅ => ?_
    refine wpAny_execs_cons (wpAny_Return_some (wpAny_mono ((we_ok noC_ok act' (by rw [List.length_set]; exact hk) e' hw).1 O₄ s₅ _ _ g₅ (hE _ _ hE₄ _ rfl)) (fun y s₆ ⟨v, O₆, n₆, r₆, hv, h₆⟩ => ?_) fun _ _ ⟨_, _, _, _, _, _, z⟩ => z.elim))
    exact goes_ok act h₀ (n₅.trans n₆) (g₅.next n₆) (hn i rfl) fun s₇ n₇ => ⟨O₆, n₇, σ, v, plain_rep hv r₆, h₆⟩
variable (hC : CallsAt c A C) (hh : A.handled = none) (act : Act n c A env N L k)
include hC hh act
theorem try_ok {b : Sts} {nm : Option Nat} {q r hp p : Pos} {e' : X} (hw : (St.tryRet b nm q e' r hp p).wf env.kindOf k = true) : StOk C c A env N L k (.tryRet b nm q e' r hp p) := fun s₀ O₀ σ O s K E hst h₀ hk nx g h => by
  simp only [ws] at h
  simp only [St.wf, Bool.and_eq_true] at hw
  obtain ⟨⟨⟨w1, w2⟩, w3⟩, w4⟩ := hw
  have hn : ∀ i, nm = some i → i < k := fun i z => by subst z; simpa using w4
  refine wpAny_Try_except ?_
  split at w2
  · rename_i i q2 e p2
    simp only [Bool.and_eq_true, decide_eq_true_eq] at w2
    simp only [wsb, ws] at h
    refine wpAny_execs_cons (wpAny_Assign_Name (wpAny_mono ((we_ok hC act hk e w2.2).1 O s _ _ g h) (fun y s₁ ⟨v, O₁, n₁, r₁, h₁⟩ => ?_) fun ex s₁ f => ?_) (no_swap ..))
    · exact store_ok act h₀ (nx.trans n₁) (g.next n₁) hk w2.1 r₁ fun s' n' g' _ => wpAny_execs_nil (wpAny_execs_nil ⟨O₁, n', _, g', by rw [List.length_set]; exact hk, h₁⟩)
    · exact caught_ok act w1 hn w3 hk h₀ nx g f fun i O₁ z => by cases nm <;> exact z
  · rename_i e p2
    simp only [wsb, ws] at h
    have hint : interactive env = false := by
      obtain ⟨name, scope, a, cd, rfl, hkd⟩ := act.shape
      show (scope.kind == .module && _) = false
      rw [hkd]; rfl
    refine wpAny_execs_cons (wpAny_Expr_any (wpAny_mono ((we_ok hC act hk e w2).1 O s _ _ g h) (fun y s₁ ⟨v, O₁, n₁, r₁, h₁⟩ => ?_) fun ex s₁ f => ?_) hint (no_swap ..))
    · exact wpAny_execs_nil (wpAny_execs_nil ⟨O₁, nx.trans n₁, _, g.next n₁, hk, h₁⟩)
    · exact caught_ok act w1 hn w3 hk h₀ nx g f fun i O₁ z => by cases nm <;> exact z
  · cases w2
end
end Mine
end
section
open PySem PySem.W PySem.Calls PyProof.Rows
open Builtin Builtin.ObjectAttr
set_option Elab.async false
set_option maxRecDepth 100000
set_option linter.all false
namespace Mine
noncomputable abbrev cd51 : ClassData := { name := dieS, bases := [.ref 31], mro := .ref 51 :: dieUp, ns := 50, qualname := dieS }
theorem cls_51 (P : Params) : clsIn (K P) 51 = some cd51 := by unfold clsIn; rw [K_51]
theorem exc_passes (self : Value) : refuseLoop self "__setattr__" [.ref 51, .ref 31, .type "Exception", .type "BaseException", .type "object"] = pure () := by
  rw [refuseLoop_ref, refuseLoop_ref]; kernel_rfl
section
variable {w : World} {A : Around} {s : Shared} {E : Value → Shared → Prop}
theorem set_die {e : Addr} {oe : Obj} {vs : Array Value} {name : Str} {v : Value} {Q : Unit → Shared → Prop} (X : (K w.params).In s.heap) (he : s.heap.get? e = some oe) (hc : oe.cls = .ref 51) (hd : oe.data = .fields vs)
    (hn : findIn (K w.params) (.ref 51) name = some none)
    (h : ∀ b tk, wpAny (model pg w) A.in1 (storeInOwnDict (.ref e) (.ref 51) (.str name tk) name v b) (fun fin s' => match fin with | .done (.ret _) => Q () s' | _ => False) (fun _ _ => False) { s with toks := s.toks + 1 }) :
    wpAny (model pg w) A (setAttr (.ref e) name v) Q E s := by
  obtain ⟨hh, g, d, t, os⟩ := s
  have L0 : Looks (model pg w) hh (typeOf (.ref e)) (.ref 51) := hc ▸ (Looks.ld he).andThen .now
  have L1 := looks_findIn (M := model pg w) (t := .ref 51) (name := "__setattr__") (r := some (.builtin "object.__setattr__")) X (by kernel_rfl)
  have L2 := looks_findIn (M := model pg w) (t := .ref 51) X hn
  have sub : Looks (model pg w) hh (isInstance (.ref e) (.type "object")) true := L0.andThen (looks_mroIn X (by kernel_rfl))
  have SF := PySem.F.store_object
  have hm : Looks (model pg w) hh (mroOf (.ref 51)) [.ref 51, .ref 31, .type "Exception", .type "BaseException", .type "object"] := (looks_clsIn X (cls_51 _)).andThen .now
  unfold setAttr callSpecial? specialOf
  refine wpAny_bind (wpAny_mkText (wpAny_bind (wpAny_bind (wpAny_bind (L0.at (L1.at ?_))))))
  refine wpAny_holding ?_
  rw [SF.slot.bind]
  refine wpAny_bind (wpAny_pure (wpAny_bind (wpAny_call ?_)))
  refine codeAny_call_builtin SF.slot.plain SF.entry (@check_slot (model pg w) _ _ _ "object.__setattr__" "object" "__setattr__" (.ref e) [.str name t, v] [] _ SF.kind SF.split sub (SF.args (.ref e) (.str name t) v) ?_)
  show wpAny _ _ (Builtin.«object.__setattr__» ⟨[.ref e, .str name t, v], []⟩) _ _ _
  rw [osa_eq, refuse_eq]
  refine wpAny_bind (wpAny_bind (L0.at (wpAny_bind (hm.at ?_))))
  rw [exc_passes]
  refine wpAny_pure (wpAny_bind (L0.at (wpAny_bind (L2.at (wpAny_bind (wpAny_pure ?_))))))
  refine wpAny_mono (h _ t) (fun fin s' z => ?_) fun _ _ z => z.elim
  rcases fin with (_ | _ | _ | _) | _ <;> first | exact z.elim | exact wpAny_pure (wpAny_pure z)
theorem store_in {dx : Addr} {od od' : Obj} {name : Str} {tk : Tok} {v : Value} {es : List DictEntry} {n : Nat} {Q : Fin → Shared → Prop} (D : s.heap.get? dx = some od) (hl : (lookIn name od).isSome = true)
    (e : Obj.putName name (PyData.keyHash w.params name) (.str name s.toks) v od = od') (e' : od'.data = .dict es.toArray n) (hz : es.length ≤ 1000)
    (h : Q (.done (.ret .none)) { s with heap := s.heap.update dx (Obj.putName name (PyData.keyHash w.params name) (.str name s.toks) v), toks := s.toks + 1 }) :
    wpAny (model pg w) A (storeInDict dx (.str name tk) name v) Q E s := by
  have D' : (s.heap.update dx (Obj.putName name (PyData.keyHash w.params name) (.str name s.toks) v)).get? dx = some od' := by
    rw [← e]; exact Heap.get?_update_self _ D (by rw [e]; obtain ⟨_, _, dd, _⟩ := od'; cases e'; rfl)
  refine wpAny_bind (wpAny_pure (wpAny_bind ?_))
  unfold nsSet
  refine wpAny_bind (wpAny_bind (wpAny_askSetting (wpAny_pure (wpAny_bind (wpAny_mkText (wpAny_bind (wpAny_loadPart D ?_)))))))
  unfold lookIn at hl
  split at hl
  · rename_i es₀ n₀ q
    rw [q]
    dsimp only
    have c : (!es₀.any (·.key.isStr name) && es₀.any (·.refKey)) = false := by
      rw [← Array.any_toList, ← Array.any_toList]
      split at hl
      · rename_i en he
        rw [List.any_eq_true.mpr ⟨en, List.mem_of_find?_eq_some he, List.find?_some he⟩]; rfl
      · split at hl
        · cases hl
        · rename_i z; rw [Bool.not_eq_true] at z; rw [z, Bool.and_false]
    rw [aRefKeyMayBeTheName_at, c]
    refine wpAny_updatePart D ?_
    refine wpAny_bind (wpAny_lookBehind D' (by rw [e']; exact pastItsLine_dict (by rw [List.size_toArray, sizeLine_eq]; omega)) ?_)
    exact wpAny_pure h
  · cases hl
noncomputable abbrev textS : Str := S [116, 101, 120, 116]
/-- the first field: the dict is made -/
theorem set_text {e : Addr} {vs : Array Value} {v : Value} {Q : Unit → Shared → Prop} (X : (K w.params).In s.heap) (he : s.heap.get? e = some ⟨.ref 51, none, .fields vs, #[]⟩)
    (h : ∀ h' tk ep, (∀ b o, b ≠ e → s.heap.get? b = some o → h'.get? b = some o) → h'.get? e = some ⟨.ref 51, some s.heap.objs.size, .fields vs, #[]⟩ →
      h'.get? s.heap.objs.size = some ⟨.type "dict", none, .dict #[⟨PyData.keyHash w.params textS, .str textS tk, v⟩] ep, #[]⟩ → Q () { s with heap := h', toks := s.toks + 2 }) :
    wpAny (model pg w) A (setAttr (.ref e) textS v) Q E s := by
  refine set_die X he rfl rfl (by kernel_rfl) fun b tk => ?_
  have hcl := looks_clsIn (M := model pg w) X (cls_51 w.params)
  have hne : s.heap.objs.size ≠ e := Nat.ne_of_gt (Heap.lt_size he)
  refine wpAny_bind (wpAny_pure (wpAny_bind (wpAny_bind (wpAny_loadPart he (wpAny_bind (hcl.at ?_))))))
  show wpAny _ _ (alloc emptyDict >>= _) _ _ _
  refine wpAny_bind (wpAny_alloc (wpAny_bind (wpAny_update (Heap.get?_push_of_some _ he) (wpAny_bind (wpAny_pure ?_)))))
  refine wpAny_pure (a := some s.heap.objs.size) ?_
  show wpAny _ _ (storeInDict _ _ _ _) _ _ _
  have hD : ((s.heap.push emptyDict).update e fun o => { o with dict := some s.heap.objs.size }).get? s.heap.objs.size = some emptyDict := by
    rw [Heap.get?_update_other _ _ (Ne.symm hne)]
    exact Heap.get?_push_size _ rfl
  refine store_in (od := emptyDict) (es := [⟨PyData.keyHash w.params textS, .str textS (s.toks + 1), v⟩]) hD rfl rfl rfl (by simp) ?_
  refine h _ (s.toks + 1) 1 (fun b o hb e => ?_) ?_ ?_
  · have hb' : b ≠ s.heap.objs.size := Nat.ne_of_lt (Heap.lt_size e)
    rw [Heap.get?_update_other _ _ (Ne.symm hb'), Heap.get?_update_other _ _ (Ne.symm hb)]
    exact Heap.get?_push_of_some _ e
  · rw [Heap.get?_update_other _ _ hne, Heap.get?_update_self _ (Heap.get?_push_of_some _ he) rfl]
  · rw [Heap.get?_update_self _ hD rfl]
    rfl
theorem set_line {e dx : Addr} {vs : Array Value} {v v0 : Value} {tk0 : Tok} {ep : Nat} {Q : Unit → Shared → Prop} (X : (K w.params).In s.heap) (he : s.heap.get? e = some ⟨.ref 51, some dx, .fields vs, #[]⟩)
    (hD : s.heap.get? dx = some ⟨.type "dict", none, .dict #[⟨PyData.keyHash w.params textS, .str textS tk0, v0⟩] ep, #[]⟩)
    (h : ∀ h' tk ep', (∀ b o, b ≠ dx → s.heap.get? b = some o → h'.get? b = some o) →
      h'.get? dx = some ⟨.type "dict", none, .dict #[⟨PyData.keyHash w.params textS, .str textS tk0, v0⟩, ⟨PyData.keyHash w.params lineS, .str lineS tk, v⟩] ep', #[]⟩ → Q () { s with heap := h', toks := s.toks + 2 }) :
    wpAny (model pg w) A (setAttr (.ref e) lineS v) Q E s := by
  refine set_die X he rfl rfl (by kernel_rfl) fun b tk => ?_
  have hcl := looks_clsIn (M := model pg w) X (cls_51 w.params)
  refine wpAny_bind (wpAny_pure (wpAny_bind (wpAny_bind (wpAny_loadPart he (wpAny_bind (hcl.at ?_))))))
  refine wpAny_pure (a := some dx) ?_
  show wpAny _ _ (storeInDict _ _ _ _) _ _ _
  refine store_in (es := [⟨PyData.keyHash w.params textS, .str textS tk0, v0⟩, ⟨PyData.keyHash w.params lineS, .str lineS (s.toks + 1), v⟩]) hD rfl rfl rfl (by simp) ?_
  refine h _ (s.toks + 1) (ep + 1) (fun b o hb e => ?_) ?_
  · rw [Heap.get?_update_other _ _ (Ne.symm hb)]; exact e
  · rw [Heap.get?_update_self _ hD rfl]
    rfl
end
end Mine
end
section
open PySem PySem.W PySem.Calls PyProof.Rows
open Builtin Builtin.ObjectAttr
set_option Elab.async false
set_option maxRecDepth 100000
set_option linter.all false
namespace Mine
noncomputable abbrev excS : Str := S [69, 120, 99, 101, 112, 116, 105, 111, 110]
noncomputable abbrev perlS : Str := S [80, 101, 114, 108, 69, 114, 114, 111, 114]
noncomputable abbrev initS : Str := S [95, 95, 105, 110, 105, 116, 95, 95]
noncomputable abbrev selfS : Str := S [115, 101, 108, 102]
noncomputable abbrev q28 : Str := S [80, 101, 114, 108, 69, 114, 114, 111, 114, 46, 95, 95, 105, 110, 105, 116, 95, 95]
noncomputable abbrev q48 : Str := S [83, 121, 110, 116, 97, 120, 68, 105, 101, 46, 95, 95, 105, 110, 105, 116, 95, 95]
noncomputable def iExpr (a : Str) (l : Nat) : Expr := .Call (.Attribute (.Name a ⟨l, 8, l, 17⟩) initS ⟨l, 8, l, 26⟩) [.Name selfS ⟨l, 27, l, 31⟩, .Name textS ⟨l, 33, l, 37⟩] [] ⟨l, 8, l, 38⟩
noncomputable def iBody (a fl : Str) (l l' : Nat) : List Stmt := [.Expr (iExpr a l) ⟨l, 8, l, 38⟩, .Assign [.Attribute (.Name selfS ⟨l', 8, l', 12⟩) fl ⟨l', 8, l', 17⟩] (.Name fl ⟨l', 20, l', 24⟩) ⟨l', 8, l', 24⟩]
noncomputable def iArgs (i : Nat) : Arguments := match T.main.body[i]? with
  | some (.ClassDef _ _ _ [.FunctionDef _ args _ _ _ _ _ _ _ _] _ _ _ _ _ _ _) => args
  | _ => default
noncomputable def iScope (i : Nat) : Scope := match T.main.body[i]? with
  | some (.ClassDef _ _ _ [.FunctionDef _ _ _ _ _ _ scope _ _ _] _ _ _ _ _ _ _) => scope
  | _ => default
noncomputable abbrev fd28 : FuncData := { docDef initS (iArgs 1) (iBody excS textS 5 6) (iScope 1) mE (.ref 27) .none with qualname := q28 }
noncomputable abbrev fd48 : FuncData := { docDef initS (iArgs 2) (iBody perlS lineS 10 11) (iScope 2) mE (.ref 47) .none with qualname := q48 }
theorem K_28 (P : Params) : (K P).lookup 28 = some ⟨.type "function", none, .func fd28, #[]⟩ := by kernel_rfl
theorem K_48 (P : Params) : (K P).lookup 48 = some ⟨.type "function", none, .func fd48, #[]⟩ := by kernel_rfl
noncomputable abbrev env28 (L : Addr) : Env := envOf q28 (iScope 1) L 28 (.ref 27)
noncomputable abbrev env48 (L : Addr) : Env := envOf q48 (iScope 2) L 48 (.ref 47)
noncomputable def iChk (i : Nat) (e : Env) (a : Str) (ns : List Str) : Bool :=
  ns.all (fun x => (match e.kindOf x with | some .local => true | _ => false) && (match (iScope i).names.lookup x with | some .local => true | _ => false)) && isGlob e.kindOf a && (iScope i).names.all (fun x => match x.2 with | .cell => false | _ => true) && !(iScope i).isCoroutine && !(iScope i).isGenerator && (match (iScope i).kind with | .function => true | _ => false)
theorem chk28 (L : Addr) : iChk 1 (env28 L) excS [selfS, textS] = true := by kernel_rfl
theorem chk48 (L : Addr) : iChk 2 (env48 L) perlS [selfS, textS, lineS] = true := by kernel_rfl
theorem bind28 (a b : Value) : bindArgs fd28 ⟨[a, b], []⟩ = pure [(selfS, a), (textS, b)] := by kernel_rfl
theorem bind48 (a b c : Value) : bindArgs fd48 ⟨[a, b, c], []⟩ = pure [(selfS, a), (textS, b), (lineS, c)] := by kernel_rfl
structure IScope (i : Nat) (e : Env) (a : Str) (ns : List Str) : Prop where
  loc : ∀ x ∈ ns, e.kindOf x = some .local ∧ (iScope i).names.lookup x = some .local
  glob : isGlob e.kindOf a = true
  cell : ∀ x ∈ (iScope i).names, x.2 ≠ .cell
  co : (iScope i).isCoroutine = false
  gen : (iScope i).isGenerator = false
  kind : (iScope i).kind = .function
theorem iChk_of {i : Nat} {e : Env} {a : Str} {ns : List Str} (h : iChk i e a ns = true) : IScope i e a ns := by
  simp only [iChk, Bool.and_eq_true, List.all_eq_true, Bool.not_eq_true'] at h
  obtain ⟨⟨⟨⟨⟨h1, h2⟩, h3⟩, h4⟩, h5⟩, h6⟩ := h
  refine ⟨fun x hx => ?_, h2, fun x hx z => ?_, h4, h5, ?_⟩
  · obtain ⟨a, b⟩ := h1 x hx
    constructor
    · revert a
      cases e.kindOf x with
      | none => intro z; cases z
      | some kd => cases kd <;> intro z <;> first | rfl | cases z
    · revert b
      cases (iScope i).names.lookup x with
      | none => intro z; cases z
      | some kd => cases kd <;> intro z <;> first | rfl | cases z
  · have := h3 x hx
    rw [z] at this
    cases this
  · revert h6
    cases (iScope i).kind <;> intro h6 <;> first | rfl | cases h6
section
variable {w : World} {A : Around} {s : Shared}
theorem call_q {R : Result → Shared → Prop} {name q : Str} {params : Arguments} {body : List Stmt} {scope : Scope} {pm cd doc : Value} {a : Addr} {o : Obj} {args : List Value} {binds : List (Str × Value)}
    (hroom : A.depth < recursionLimit) (ho : s.heap.get? a = some o) (hdata : o.data = .func { docDef name params body scope pm cd doc with qualname := q }) (hlim : s.heap.NoLimit) (hcd : s.heap.CodeRec cd q)
    (hbind : bindArgs { docDef name params body scope pm cd doc with qualname := q } ⟨args, []⟩ = pure binds)
    (hloc : ∀ x ∈ binds, scope.names.lookup x.1 = some .local)
    (h : ∀ h₁, h₁.Ns s.heap.objs.size (fun x => binds.reverse.lookup x) → (∀ b o, s.heap.get? b = some o → h₁.get? b = some o) →
      wpAny (model pg w) (A.deeper (envOf q scope s.heap.objs.size a cd)) (execs body (envOf q scope s.heap.objs.size a cd))
        (fun f s' => R (.ok (.ret (match f with | .ret v => v | _ => .none))) s') (fun _ _ => False) { s with heap := h₁, toks := s.toks + binds.length })
    (hco : scope.isCoroutine = false) (hgen : scope.isGenerator = false) (hk : scope.kind = .function) (hcell : ∀ x ∈ scope.names, x.2 ≠ .cell) :
    codeAny (model pg w) A (.call (.ref a) ⟨args, []⟩) R s := by
  refine codeAny_call_function hroom ho hdata hco hgen rfl hcd ?_
  rw [hbind]
  refine wpAny_pure (wpAny_newFunctionEnv hcell hloc (fun h₁ hns hsb => ⟨hlim.fresh _ hsb, ?_⟩) hk)
  show codeAny _ _ (.func body (envOf q scope s.heap.objs.size a cd)) _ _
  exact codeAny_func (wpAny_mono (h h₁ hns fun b o e => hsb.extBut b o (Nat.ne_of_lt (Heap.lt_size e)) (Heap.get?_push_of_some _ e)) (fun _ _ x => x) fun _ _ x => x.elim)
theorem nameLocal {E : Value → Shared → Prop} {q : Str} {scope : Scope} {L a : Addr} {cd : Value} {x : Str} {p : Pos} {m : Str → Option Value} {v : Value} {Q : Value → Shared → Prop} (hk : scope.kind = .function) (hl : (envOf q scope L a cd).kindOf x = some .local) (hd : (x == ("__debug__" : Str)) = false) (hn : s.heap.Ns L m) (hv : m x = some v) (h : Q v s) :
    wpAny (model pg w) A (eval (.Name x p) (envOf q scope L a cd)) Q E s := wpAny_Name (wpAny_loadName_local hk hl hn hv h) hd
theorem globOf {ks : Str → Option NameKind} {x : Str} (h : isGlob ks x = true) : ks x = some .globalImplicit ∧ (x == ("__debug__" : Str)) = false := by
  unfold isGlob at h
  simp only [Bool.and_eq_true] at h
  obtain ⟨h1, h2⟩ := h
  refine ⟨?_, by simpa using h2⟩
  revert h1
  cases ks x with
  | none => intro h; cases h
  | some kd => cases kd <;> first | (intro _; rfl) | (intro h; cases h)

/-- Exception.__init__ on an object of the class at hand -/
noncomputable abbrev xf (t : Addr) : Array Value := #[.ref t, .none, .none, .none, .bool false, .none]
theorem init_exc {e t0 : Addr} {x : Value} {Q : Value → Shared → Prop} {E : Value → Shared → Prop} (X : (K w.params).In s.heap) (he : s.heap.get? e = some ⟨.ref 51, none, .fields (xf t0), #[]⟩)
    (h : ∀ h', (∀ b o, b ≠ e → s.heap.get? b = some o → h'.get? b = some o) → h'.get? e = some ⟨.ref 51, none, .fields (xf s.heap.objs.size), #[]⟩ → Q .none { s with heap := h' }) :
    wpAny (model pg w) A (call (.builtin "Exception.__init__") [.ref e, x]) Q E s := by
  have F := PySem.F.excBase_Exception
  have hC : s.heap.get? 51 = some c51 := X _ _ (K_51 _)
  obtain ⟨hh, g, d, t, os⟩ := s
  have hcB : (Value.ref 51 :: dieUp).contains (.type "Exception") = true := by decide
  have chk : ∀ {M : Model} {A' : Around} {Q : Unit → Shared → Prop} {E : Value → Shared → Prop}, Q () ⟨hh, g, d, t, os⟩ → wpAny M A' (checkBuiltinCall "Exception.__init__" ⟨.ref e :: [x], []⟩) Q E ⟨hh, g, d, t, os⟩ := by
    intro M A' Q E hq
    have hshort := F.noStar
    simp only [checkBuiltinCall, F.initKind, F.initSplit, F.initRow]
    repeat (first | (with_reducible refine wpAny_loadPart_at he ?_) | with_reducible refine wpAny_loadPart_at hC ?_ | (with_reducible refine wpAny_isSubtype_exc hC ?_; rw [hcB]) | wp_step)
    exact hq
  have he' : (hh.push { cls := .type "tuple", data := .seq #[x] }).get? e = some ⟨.ref 51, none, .fields (xf t0), #[]⟩ := Heap.get?_push_of_some _ he
  refine wpAny_call (codeAny_call_builtin F.init.plain F.initEntry (chk ?_))
  unfold Builtin.«BaseException.__init__»
  wp_walk
  refine h _ (fun b o hb e => ?_) ?_
  · rw [Heap.get?_update_other _ _ (Ne.symm hb)]
    exact Heap.get?_push_of_some _ e
  · rw [Heap.get?_update_self _ he' rfl]
    rfl
theorem method_typeX {E : Value → Shared → Prop} {KK : Frag} {T : String} {name : Str} {v : Value} {pl : Sem Bool} {Q : Value × List Value → Shared → Prop} (X : KK.In s.heap) (ht : typeOf (.type T) = pure (.type "type")) (hs : Manifest.isStub T = false)
    (e : findCls KK (.type T) (.type "type") name = some (.val v)) (hh : handedIn v = true) (h : Q (v, []) { s with toks := s.toks + 1 }) : wpAny (model pg w) A (getMethod (.type T) name pl) Q E s := by
  have hstub : opaqueClassAbove (.type T) = pure none := by unfold opaqueClassAbove; dsimp only; rw [hs]; rfl
  have L0 : Looks (model pg w) s.heap (typeOf (.type T)) (.type "type") := Looks.of_pure ht
  have hg : findIn KK (.type "type") "__getattribute__" = some (some (.builtin "type.__getattribute__")) := type_tga
  unfold getMethod specialOf
  refine wpAny_bind (wpAny_bind (L0.here ((looks_findIn X hg).here ?_)))
  dsimp only
  rw [if_pos canon_tga]
  refine wpAny_bind (wpAny_mono (Q := fun v => Q (v, [])) (E := E) ?_ (fun _ _ z => wpAny_pure z) fun _ _ z => z)
  have LO : Looks (model pg w) s.heap (opaqueClassAbove (.type T)) none := Looks.of_pure hstub
  refine cls_open X LO L0 hg (looks_hook X (r := none) (by rfl)) (by show subIn KK _ _ = _; rfl) e
    (wpAny_pure (by show wpAny _ _ (handedOut v) _ _ _; rw [handedOut_of hh]; exact wpAny_pure h))
theorem ns_bug {h h' : Heap} {L e : Addr} {m : Str → Option Value} (hn : h.Ns L m) (hne : L ≠ e) (k : ∀ b o, b ≠ e → h.get? b = some o → h'.get? b = some o) : h'.Ns L m := hn.at' fun o e => k L o hne e
theorem blt_name {E : Value → Shared → Prop} {B : Heap} {q : Str} {scope : Scope} {L a : Addr} {cd : Value} {x : Str} {v : Value} {p : Pos} {Q : Value → Shared → Prop} (bs : Base w B) (st : B.StaysIn s.heap) (hk : scope.kind = .function) (hg : isGlob (envOf q scope L a cd).kindOf x = true) (ha : x ∈ absentRows) (hm : (x, v) ∈ bltRows) (h : Q v s) :
    wpAny (model pg w) A (eval (.Name x p) (envOf q scope L a cd)) Q E s := by
  obtain ⟨mg, g1, _, g3⟩ := bs.glob
  obtain ⟨mb, b1, b2⟩ := bs.blt
  exact Calls.Name_function_global hk (globOf hg).1 (Calls.loadGlobal_builtin (env := envOf q scope L a cd) (g1.keeps st) (g3 _ ha) (b1.keeps st) (b2 _ hm) h) (globOf hg).2
theorem glob_name {E : Value → Shared → Prop} {B : Heap} {q : Str} {scope : Scope} {L a : Addr} {cd : Value} {x : Str} {v : Value} {p : Pos} {Q : Value → Shared → Prop} (bs : Base w B) (st : B.StaysIn s.heap) (hk : scope.kind = .function) (hg : isGlob (envOf q scope L a cd).kindOf x = true) (hm : (x, v) ∈ globRows) (h : Q v s) :
    wpAny (model pg w) A (eval (.Name x p) (envOf q scope L a cd)) Q E s := by
  obtain ⟨mg, g1, g2, _⟩ := bs.glob
  exact Calls.Name_function_global hk (globOf hg).1 (Calls.loadGlobal_global (env := envOf q scope L a cd) (g1.keeps st) (g2 _ hm) h) (globOf hg).2
theorem exc_absent : excS ∈ absentRows := List.mem_of_getElem? (i := 4) rfl
theorem exc_blt : (excS, Value.type "Exception") ∈ bltRows := List.mem_of_getElem? (i := 4) rfl
theorem perl_glob : (perlS, Value.ref 31) ∈ globRows := List.mem_of_getElem? (i := 36) rfl
theorem code_28 : ((27 : Addr), q28) ∈ codeRows := List.mem_of_getElem? (i := 36) rfl
theorem code_48 : ((47 : Addr), q48) ∈ codeRows := List.mem_of_getElem? (i := 37) rfl
theorem exc_find (P : Params) : findCls (K P) (.type "Exception") (.type "type") initS = some (.val (.builtin "Exception.__init__")) := by kernel_rfl
theorem lk2s (a b : Value) : ([(selfS, a), (textS, b)] : List (Str × Value)).reverse.lookup selfS = some a := by kernel_rfl
theorem lk2t (a b : Value) : ([(selfS, a), (textS, b)] : List (Str × Value)).reverse.lookup textS = some b := by kernel_rfl
theorem lk3s (a b c : Value) : ([(selfS, a), (textS, b), (lineS, c)] : List (Str × Value)).reverse.lookup selfS = some a := by kernel_rfl
theorem lk3t (a b c : Value) : ([(selfS, a), (textS, b), (lineS, c)] : List (Str × Value)).reverse.lookup textS = some b := by kernel_rfl
theorem lk3l (a b c : Value) : ([(selfS, a), (textS, b), (lineS, c)] : List (Str × Value)).reverse.lookup lineS = some c := by kernel_rfl
theorem dbg_s : (selfS == ("__debug__" : Str)) = false := by decide +kernel
theorem dbg_t : (textS == ("__debug__" : Str)) = false := by decide +kernel
theorem dbg_l : (lineS == ("__debug__" : Str)) = false := by decide +kernel
theorem st_name (x : Str) (p : Pos) (rest : List Expr) (env : Env) : starEach (.Name x p :: rest) env = (false, eval (.Name x p) env) :: starEach rest env := rfl
theorem pl_name (pos p : Pos) (x : Str) (env : Env) : (backTo pos (starEach [.Name x p] env)).any (·.1) = false := rfl
theorem init28 {B : Heap} {e t0 : Addr} {x : Value} {Q : Value → Shared → Prop} {E : Value → Shared → Prop} (bs : Base w B) (st : B.StaysIn s.heap) (hn : B.get? e = none) (hroom : A.depth < recursionLimit) (he : s.heap.get? e = some ⟨.ref 51, none, .fields (xf t0), #[]⟩)
    (h : ∀ h' tk dx t1 tk' ep, (∀ b o, b ≠ e → s.heap.get? b = some o → h'.get? b = some o) → s.heap.get? dx = none → dx ≠ e → h'.get? e = some ⟨.ref 51, some dx, .fields (xf t1), #[]⟩ →
      h'.get? dx = some ⟨.type "dict", none, .dict #[⟨PyData.keyHash w.params textS, .str textS tk', x⟩] ep, #[]⟩ → Q .none { s with heap := h', toks := tk }) :
    wpAny (model pg w) A (call (.ref 28) [.ref e, x]) Q E s := by
  have SC := iChk_of (chk28 s.heap.objs.size)
  have l1 := SC.loc selfS (by simp)
  have l2 := SC.loc textS (by simp)
  refine wpAny_call (call_q hroom (st _ _ (bs.k _ _ (K_28 _))) rfl (bs.lim.keeps st) ((bs.code _ code_28).keeps st) (bind28 _ _) (fun y hy => ?_) (fun h₁ hns hk => ?_) SC.co SC.gen SC.kind SC.cell)
  · simp only [List.mem_cons, List.not_mem_nil, or_false] at hy
    rcases hy with rfl | rfl
    · exact l1.2
    · exact l2.2
  · have hLe : s.heap.objs.size ≠ e := Nat.ne_of_gt (Heap.lt_size he)
    have st₁ : B.StaysIn h₁ := fun b o q => hk b o (st b o q)
    refine wpAny_execs_cons (wpAny_Expr_any (methodCall_KW (blt_name bs st₁ SC.kind SC.glob exc_absent exc_blt (method_typeX (KK := K w.params) (bs.k.keeps st₁) (by kernel_rfl) (by decide +kernel) (exc_find _) (by decide +kernel) ?_))) rfl rfl)
    show wpAny _ _ (callWith ⟨5, 8, 5, 38⟩ (.builtin "Exception.__init__") [] (backTo ⟨5, 8, 5, 38⟩ (starEach [.Name selfS ⟨5, 27, 5, 31⟩, .Name textS ⟨5, 33, 5, 37⟩] (env28 s.heap.objs.size))) []) _ _ _
    refine callWith_builtin1 ?_ (st_name ..) (pl_name ..)
    refine args_cons ?_ (st_name ..)
    refine nameLocal SC.kind l1.1 dbg_s hns (lk2s ..) ?_
    refine args_cons ?_ (st_name ..)
    refine nameLocal SC.kind l2.1 dbg_t hns (lk2t ..) ?_
    refine args_nil ?_
    refine init_exc (bs.k.keeps st₁) (hk _ _ he) fun h₂ k₂ he₂ => ?_
    have ns₂ := ns_bug hns hLe k₂
    have st₂ : B.StaysIn h₂ := fun b o q => k₂ b o (by rintro rfl; rw [hn] at q; cases q) (st₁ b o q)
    refine wpAny_execs_cons (plainObj_wpAny_Assign_Attribute (nameLocal SC.kind l2.1 dbg_t ns₂ (lk2t ..) (nameLocal SC.kind l1.1 dbg_s ns₂ (lk2s ..) (set_text (bs.k.keeps st₂) he₂ fun h₃ tk ep k₃ he₃ hd₃ => ?_))))
    refine wpAny_execs_nil (h h₃ _ h₂.objs.size _ tk ep (fun b o hb q => k₃ b o hb (k₂ b o hb (hk b o q))) ?_ (Nat.ne_of_gt (Heap.lt_size he₂)) he₃ hd₃)
    cases q : s.heap.get? h₂.objs.size with
    | none => rfl
    | some o =>
      by_cases z : h₂.objs.size = e
      · exact absurd z (Nat.ne_of_gt (Heap.lt_size he₂))
      · exact absurd (Heap.lt_size (k₂ _ _ z (hk _ _ q))) (Nat.lt_irrefl _)
theorem perl_reads {B : Heap} (bs : Base w B) (st : B.StaysIn s.heap) : Looks (model pg w) s.heap (opaqueClassAbove (.ref 31)) none := by
  obtain ⟨mc, hn, hv⟩ := bs.opq
  have L : Looks (model pg w) s.heap (nsGet cStatics (Str.ofString "thirdparty.any")) none := fun A Q E s' k q => wpAny_nsGet ((hn.keeps st).keeps k) (by rw [hv]; exact q)
  exact Looks.andThen (a := false) (L.andThen .now) (by show Looks _ _ (if (!false) = true then pure none else _) none; rw [if_pos (show (!false) = true from rfl)]; exact .now)
theorem perl_find (P : Params) : findCls (K P) (.ref 31) (.type "type") initS = some (.val (.ref 28)) := by kernel_rfl
theorem perl_tga (P : Params) : specialIn (K P) (.ref 31) "__getattribute__" = some (some (.builtin "type.__getattribute__")) := by kernel_rfl
theorem perl_type (P : Params) : typeIn (K P) (.ref 31) = some (.type "type") := by kernel_rfl
theorem method_perl {E : Value → Shared → Prop} {B : Heap} {pl : Sem Bool} {Q : Value × List Value → Shared → Prop} (bs : Base w B) (st : B.StaysIn s.heap) (h : Q (.ref 28, []) { s with toks := s.toks + 1 }) : wpAny (model pg w) A (getMethod (.ref 31) initS pl) Q E s := by
  have X := bs.k.keeps st
  refine method_cls X (perl_tga _) ?_
  exact cls_open X (perl_reads bs st) (looks_typeIn X (perl_type _)) (show findIn (K w.params) (.type "type") "__getattribute__" = _ from type_tga) (looks_hook X (r := none) (by rfl)) (by show subIn (K w.params) _ _ = _; rfl) (perl_find _)
    (wpAny_pure (by show wpAny _ _ (handedOut (.ref 28)) _ _ _; exact wpAny_pure h))
theorem init48 {B : Heap} {e t0 : Addr} {x y : Value} {Q : Value → Shared → Prop} {E : Value → Shared → Prop} (bs : Base w B) (st : B.StaysIn s.heap) (hn : B.get? e = none) (hroom : A.depth + 1 < recursionLimit) (he : s.heap.get? e = some ⟨.ref 51, none, .fields (xf t0), #[]⟩)
    (h : ∀ h' tk dx t1 tk' tk'' ep, (∀ b o, b ≠ e → s.heap.get? b = some o → h'.get? b = some o) → s.heap.get? dx = none → dx ≠ e → h'.get? e = some ⟨.ref 51, some dx, .fields (xf t1), #[]⟩ →
      h'.get? dx = some ⟨.type "dict", none, .dict #[⟨PyData.keyHash w.params textS, .str textS tk', x⟩, ⟨PyData.keyHash w.params lineS, .str lineS tk'', y⟩] ep, #[]⟩ → Q .none { s with heap := h', toks := tk }) :
    wpAny (model pg w) A (call (.ref 48) [.ref e, x, y]) Q E s := by
  have SC := iChk_of (chk48 s.heap.objs.size)
  have l1 := SC.loc selfS (by simp)
  have l2 := SC.loc textS (by simp)
  have l3 := SC.loc lineS (by simp)
  refine wpAny_call (call_q (by omega) (st _ _ (bs.k _ _ (K_48 _))) rfl (bs.lim.keeps st) ((bs.code _ code_48).keeps st) (bind48 _ _ _) (fun y hy => ?_) (fun h₁ hns hk => ?_) SC.co SC.gen SC.kind SC.cell)
  · simp only [List.mem_cons, List.not_mem_nil, or_false] at hy
    rcases hy with rfl | rfl | rfl
    · exact l1.2
    · exact l2.2
    · exact l3.2
  · have hLe : s.heap.objs.size ≠ e := Nat.ne_of_gt (Heap.lt_size he)
    have st₁ : B.StaysIn h₁ := fun b o q => hk b o (st b o q)
    refine wpAny_execs_cons (wpAny_Expr_any (methodCall_KW (glob_name bs st₁ SC.kind SC.glob perl_glob (method_perl bs st₁ ?_))) rfl rfl)
    show wpAny _ _ (callWith ⟨10, 8, 10, 38⟩ (.ref 28) [] (backTo ⟨10, 8, 10, 38⟩ (starEach [.Name selfS ⟨10, 27, 10, 31⟩, .Name textS ⟨10, 33, 10, 37⟩] (env48 s.heap.objs.size))) []) _ _ _
    refine callWith_def (fd := fd28) (o := ⟨.type "function", none, .func fd28, #[]⟩) rfl ?_ (st_name ..)
    refine args_cons ?_ (st_name ..)
    refine nameLocal SC.kind l1.1 dbg_s hns (lk3s ..) ?_
    refine args_cons ?_ (st_name ..)
    refine nameLocal SC.kind l2.1 dbg_t hns (lk3t ..) ?_
    refine args_nil ⟨st₁ _ _ (bs.k _ _ (K_28 _)), ?_⟩
    refine init28 bs st₁ hn (by show A.depth + 1 < _; exact hroom) (hk _ _ he) fun h₂ tk dx t1 tk' ep k₂ hdx hne he₂ hd₂ => ?_
    have ns₂ := ns_bug hns hLe k₂
    have st₂ : B.StaysIn h₂ := fun b o q => k₂ b o (by rintro rfl; rw [hn] at q; cases q) (st₁ b o q)
    refine wpAny_execs_cons (plainObj_wpAny_Assign_Attribute ?_)
    refine nameLocal SC.kind l3.1 dbg_l ns₂ (lk3l ..) (nameLocal SC.kind l1.1 dbg_s ns₂ (lk3s ..) ?_)
    refine set_line (bs.k.keeps st₂) he₂ hd₂ fun h₃ tk2 ep' k₃ hd₃ => ?_
    have hdx₀ : s.heap.get? dx = none := by
      cases q : s.heap.get? dx with
      | none => rfl
      | some o => rw [hk _ _ q] at hdx; cases hdx
    exact wpAny_execs_nil (h h₃ _ dx t1 tk' tk2 ep' (fun b o hb q => k₃ b o (by rintro rfl; rw [hdx₀] at q; cases q) (k₂ b o hb (hk b o q))) hdx₀ hne (k₃ e _ (Ne.symm hne) he₂) hd₃)
end
end Mine
end
section
open PySem PySem.W PySem.Calls PyProof.Rows
open Builtin Builtin.ObjectAttr
set_option Elab.async false
set_option maxRecDepth 100000
set_option linter.all false
namespace Mine
section
variable {w : World} {A : Around} {h : Heap} {g : Array GenState} {d : Drawn} {t : Nat} {os : OsState}
theorem die_check_new {M : Model} {E : Value → Shared → Prop} {rest : List Value} {Q : Unit → Shared → Prop} (hC : h.get? 51 = some c51) (hq : Q () ⟨h, g, d, t, os⟩) : wpAny M A (checkBuiltinCall "Exception.__new__" ⟨.ref 51 :: rest, []⟩) Q E ⟨h, g, d, t, os⟩ := by
  have F := PySem.F.excBase_Exception
  have hcont : (Value.ref 51 :: dieUp).contains (.type "Exception") = true := by decide
  have hstar := F.noStar
  simp only [checkBuiltinCall, F.newKind, F.newSplit, F.newRow]
  repeat (first | refine wpAny_loadPart_at hC ?_ | (refine wpAny_isSubtype_exc hC ?_; rw [hcont]) | refine wpAny_staticBase_exc hC ?_ | refine wpAny_madeBy_exc hC ?_ | simp only [bne_self_eq_false, Bool.false_eq_true, if_false] | wp_step)
  exact hq
theorem die_new {R : Result → Shared → Prop} {rest : List Value} (hC : h.get? 51 = some c51)
    (hq : R (.ok (.ret (.ref (h.objs.size + 1)))) ⟨(h.push { cls := .type "tuple", data := .seq rest.toArray }).push { cls := .ref 51, data := .fields (xf h.objs.size) }, g, d, t, os⟩) (hrest : rest.length ≤ sizeLine) :
    codeAny (model pg w) A (.builtin "Exception.__new__" ⟨.ref 51 :: rest, []⟩) R ⟨h, g, d, t, os⟩ := by
  have F := PySem.F.excBase_Exception
  have hends := F.ends
  have hcB : (Value.ref 51 :: dieUp).contains (.type "Exception") = true := by decide
  have hcA : (Value.ref 51 :: dieUp).contains (.type "AttributeError") = false := by decide
  have hcN : (Value.ref 51 :: dieUp).contains (.type "NameError") = false := by decide
  refine codeAny_builtinAt F.entry ?_
  unfold Builtin.«BaseException.__new__»
  refine PySem.wpAt_bind ?_
  show PySem.wpAt _ _ _ (stack >>= _) _ _ _
  refine PySem.wpAt_bind (PySem.wpAt_stack fun p below => PySem.wpAt_of_wpAny ?_)
  wp_walk
  refine PySem.wpAt_of_wpAny ?_
  rw [F.owner]
  repeat (first | with_reducible refine wpAny_madeHere_exc F.canon hC ?_ | with_reducible refine wpAny_loadPart_at hC ?_ | (with_reducible refine wpAny_isSubtype_exc hC ?_; first | rw [hcB] | rw [hcA] | rw [hcN]) | wp_step)
  show R _ _
  rw [Heap.size_push]
  exact hq
theorem init_look {P : Params} {M : Model} {h : Heap} (X : (K P).In h) : Looks M h (typeLookup (.ref 51) "__init__") (some (.ref 48)) := looks_findIn X (by kernel_rfl)
theorem fn48_type (P : Params) : typeIn (K P) (.ref 48) = some (.type "function") := by kernel_rfl
theorem type_call_die {B : Heap} {x y : Value} {Q : PySem.Fin → Shared → Prop} {E : Value → Shared → Prop} (bs : Base w B) (st : B.StaysIn h) (hroom : A.depth + 1 < recursionLimit)
    (hq : ∀ h' tk dx t1 tk' tk'' ep, (∀ b o, h.get? b = some o → h'.get? b = some o) → h.get? dx = none → dx ≠ h.objs.size + 1 → h'.get? (h.objs.size + 1) = some ⟨.ref 51, some dx, .fields (xf t1), #[]⟩ →
      h'.get? dx = some ⟨.type "dict", none, .dict #[⟨PyData.keyHash w.params textS, .str textS tk', x⟩, ⟨PyData.keyHash w.params lineS, .str lineS tk'', y⟩] ep, #[]⟩ → Q (.done (.ret (.ref (h.objs.size + 1)))) ⟨h', g, d, tk, os⟩) :
    wpAny (model pg w) A (Builtin.«type.__call__» ⟨.ref 51 :: [x, y], []⟩) Q E ⟨h, g, d, t, os⟩ := by
  have F := PySem.F.excBase_Exception
  have hC : h.get? 51 = some c51 := st _ _ (bs.k _ _ (K_51 _))
  repeat (first | with_reducible refine wpAny_loadPart_at hC ?_ | with_reducible refine wpAny_madeBy_exc hC ?_ | wp_step)
  refine codeAny_call_builtin_code (Code.quiet_builtin _ F.quiet) (die_check_new hC ?_)
  refine die_new hC ?_ (by size_fits)
  show wpAny _ _ _ _ _ _
  have kp : ∀ b o, h.get? b = some o → ((h.push { cls := .type "tuple", data := .seq [x, y].toArray }).push { cls := .ref 51, data := .fields (xf h.objs.size) }).get? b = some o := fun b o e => Heap.get?_push_of_some _ (Heap.get?_push_of_some _ e)
  have hC₁ := kp _ _ hC
  have st₁ : B.StaysIn ((h.push { cls := .type "tuple", data := .seq [x, y].toArray }).push { cls := .ref 51, data := .fields (xf h.objs.size) }) := fun b o e => kp b o (st b o e)
  have X₁ : (K w.params).In ((h.push { cls := .type "tuple", data := .seq [x, y].toArray }).push { cls := .ref 51, data := .fields (xf h.objs.size) }) := bs.k.keeps st₁
  have hget : ((h.push { cls := .type "tuple", data := .seq [x, y].toArray }).push { cls := .ref 51, data := .fields (xf h.objs.size) }).get? (h.objs.size + 1) = some { cls := .ref 51, data := .fields (xf h.objs.size) } := by heap_get
  have hnew : h.get? (h.objs.size + 1) = none := Heap.get?_none_of_le (Nat.le_succ _)
  have hcC : (Value.ref 51 :: dieUp).contains (.ref 51) = true := by simp
  have L1 := init_look (M := model pg w) X₁
  unfold isInstance
  repeat (first | with_reducible refine wpAny_loadPart_at hget ?_ | (with_reducible refine wpAny_isSubtype_exc hC₁ ?_; rw [hcC]) | wp_step)
  show wpAny _ _ (typeLookup (.ref 51) _) _ _ _
  refine L1.at ?_
  refine wpAny_holding (wpAny_bind ((bind_fn X₁ _ (fn48_type _)).at ?_))
  refine wpAny_bind ?_
  refine init48 bs st₁ (by cases q : B.get? (h.objs.size + 1) with
    | none => rfl
    | some o => rw [st _ _ q] at hnew; cases hnew) hroom hget fun h' tk dx t1 tk' tk'' ep k hdx hne he hd => ?_
  wp_walk
  refine hq h' tk dx t1 tk' tk'' ep (fun b o e => k b o (by rintro rfl; rw [hnew] at e; cases e) (kp b o e)) ?_ hne he hd
  cases q : h.get? dx with
  | none => rfl
  | some o => rw [kp _ _ q] at hdx; cases hdx
theorem call_die {s : Shared} {B : Heap} {x y : Value} {Q : Value → Shared → Prop} {E : Value → Shared → Prop} (bs : Base w B) (st : B.StaysIn s.heap) (hroom : A.depth + 2 < recursionLimit)
    (hq : ∀ h' tk dx t1 tk' tk'' ep, (∀ b o, s.heap.get? b = some o → h'.get? b = some o) → s.heap.get? dx = none → dx ≠ s.heap.objs.size + 1 → h'.get? (s.heap.objs.size + 1) = some ⟨.ref 51, some dx, .fields (xf t1), #[]⟩ →
      h'.get? dx = some ⟨.type "dict", none, .dict #[⟨PyData.keyHash w.params textS, .str textS tk', x⟩, ⟨PyData.keyHash w.params lineS, .str lineS tk'', y⟩] ep, #[]⟩ → Q (.ref (s.heap.objs.size + 1)) { s with heap := h', toks := tk }) :
    wpAny (model pg w) A (call (.ref 51) [x, y]) Q E s := by
  have hC : s.heap.get? 51 = some c51 := st _ _ (bs.k _ _ (K_51 _))
  obtain ⟨hh, g, d, t, os⟩ := s
  have f1 := tc_lookup
  have f2 := tc_bind (.ref 51)
  have hT : (⟨hh, g, d, t, os⟩ : Shared).TypeIs (.ref 51) "type" := ⟨_, hC, rfl⟩
  refine wpAny_call (codeAny_of_tree ?_)
  show wpAny _ _ (callAny (.ref 51) _) _ _ _
  repeat (any_goals (first | assumption | with_reducible refine wpAny_loadPart_at hC ?_ | wp_step))
  refine ⟨rfl, ?_⟩
  refine codeAny_call_builtin_at (Code.quiet_builtin _ (by decide +kernel)) entry_typeCall (wpAny_check_type_call_sub hC (type_call_die bs st ?_ fun h' tk dx t1 tk' tk'' ep k1 k2 k3 k4 k5 => ?_))
  · show A.depth + Code.weight (.builtin "type.__call__" ⟨[.ref 51, x, y], []⟩) + 1 < _
    rw [show Code.weight (.builtin "type.__call__" ⟨[.ref 51, x, y], []⟩) = 1 from by kernel_rfl]
    omega
  · exact hq h' tk dx t1 tk' tk'' ep k1 k2 k3 k4 k5
theorem raise_inst {env : Env} {A : Around} {E : Value → Shared → Prop} {s : Shared} {x : Sem Value} {Q : Flow → Shared → Prop} (hh : A.handled = none)
    (h : wpAny (model pg w) A x (fun v s₁ => ∃ e dx t, v = .ref e ∧ s₁.heap.get? 51 = some c51 ∧ s₁.heap.get? e = some ⟨.ref 51, some dx, .fields (xf t), #[]⟩ ∧ E (.ref e) s₁) E s) :
    wpAny (model pg w) A (raiseStmt env (some x) none) Q E s := by
  have hcB : (Value.ref 51 :: dieUp).contains (.type "BaseException") = true := by decide
  unfold raiseStmt
  refine wpAny_bind (wpAny_mono h (fun v s₁ h₁ => ?_) fun _ _ x => x)
  obtain ⟨e, dx, t, rfl, hC, he, hE⟩ := h₁
  obtain ⟨hp, g, d, tk, os⟩ := s₁
  repeat (first | with_reducible refine wpAny_loadPart_at he ?_ | with_reducible refine wpAny_loadPart_at hC ?_ | (with_reducible refine wpAny_isSubtype_exc hC ?_; rw [hcB]) | wp_step)
  exact wpAny_raiseNew_none hh hE
theorem die_ns {P : Params} {h : Heap} {dx : Addr} {tk tk' ep : Nat} {x y : Value} (hd : h.get? dx = some ⟨.type "dict", none, .dict #[⟨PyData.keyHash P textS, .str textS tk, x⟩, ⟨PyData.keyHash P lineS, .str lineS tk', y⟩] ep, #[]⟩) :
    ∃ m, h.Ns dx m ∧ m lineS = some y := by
  refine ⟨_, ⟨_, _, _, hd, rfl, fun e he => ?_, fun _ => rfl⟩, by kernel_rfl⟩
  simp only [List.mem_toArray, List.mem_cons, List.not_mem_nil, or_false] at he
  rcases he with rfl | rfl
  · exact ⟨_, _, rfl⟩
  · exact ⟨_, _, rfl⟩
end
end Mine
end
section
open PySem PySem.W PySem.Calls PyProof.Rows
set_option Elab.async false
set_option maxRecDepth 4000
set_option linter.all false
namespace Mine
section
variable {n : Nat} {C : CallP} {c : Cx} {A : Around} {env : Env} {N : Nat → Str} {L : Addr} {k : Nat} {σ : List V}
theorem evalArgs_emb {M : Model} {A : Around} {E : Value → Shared → Prop} {s : Shared} {f : Value} {cp : Pos} {x : X} {xs : Xs} {Q : Args → Shared → Prop} (h : wpAny M A (spliced (backTo cp (starEach (x.emb N :: xs.emb N) env))) (fun vs s₁ => Q ⟨vs, []⟩ s₁) E s) :
    wpAny M A (evalArgs f true (backTo cp (starEach (x.emb N :: xs.emb N) env)) (backToKw cp (keywordEach [] env))) Q E s := by
  rw [emb_star N env xs x] at h ⊢
  exact evalArgs_plain h
variable (hC : CallsAt c A C) (hh : A.handled = none) (act : Act n c A env N L k)
include hC hh act
theorem raise_ok {a b : X} {q cp p : Pos} (hg : isGlob env.kindOf dieS = true) (ha : a.wf env.kindOf k = true) (hb : b.wf env.kindOf k = true) : StOk C c A env N L k (.raise a b q cp p) := fun s₀ O₀ σ O s K E hst h₀ hk nx g h => by
  simp only [ws] at h
  show wpAny _ _ (exec (.Raise (some (.Call (.Name dieS q) [a.emb N, b.emb N] [] cp)) none p) env) _ _ _
  rw [arm_exec_Raise]
  refine wpAny_bind (wpAny_standAt (raise_inst hh (wpAny_bind (wpAny_mono (wpAny_Call_ofName (act.glob g.inv hg die_mem ?_)) (fun v s₃ h₃ => wpAny_bind (wpAny_standAt (wpAny_pure h₃))) fun _ _ x => x))))
  unfold callWith
  have hplain : (backTo cp (starEach [a.emb N, b.emb N] env)).any (·.1) = false := emb_plain N env cp (.cons a (.cons b .nil))
  refine wpAny_bind (wpAny_holding (evalArgs_emb (xs := .cons b .nil) (args_cons (ev_ (we_ok hC act hk a ha).1 nx g h fun y s₁ va O₁ n₁ _ r₁ g₁ h₁ => args_cons (ev_ (we_ok hC act hk b hb).1 n₁ g₁ h₁ fun z s₂ vb O₂ n₂ m₂ r₂ g₂ h₂ => args_nil ?_) (emb_star N env .nil b)) (emb_star N env (.cons b .nil) a))))
  refine wpAny_bind (wpAny_standAt ?_)
  cases va <;> first | exact h₂.elim | skip
  obtain ⟨i, t, rfl, rfl, hE⟩ := asI_elim r₂ h₂
  have hC51 := at_51 g₂.inv
  simp only [hplain]
  obtain ⟨hp, gg, d, tk, os⟩ := s₂
  refine wpAny_bind (wpAny_keeperOf_exc hC51 ?_)
  have hroom := act.ok.depth
  refine wpAny_bind (call_die (s := ⟨hp, gg, d, tk, os⟩) g₂.inv.base g₂.inv.stay (by omega) fun h' tk' dx t1 tk1 tk2 ep k1 k2 k3 k4 k5 => wpAny_bind (wpAny_holding (wpAny_point (wpAny_pure ?_))))
  have pn := g₂.inv.pure (s' := ⟨h', gg, d, tk', os⟩) ⟨k1, rfl, rfl⟩
  have hn : hp.get? (hp.objs.size + 1) = none := Heap.get?_none_of_le (Nat.le_succ _)
  obtain ⟨m, hm1, hm2⟩ := die_ns k5
  refine ⟨_, dx, t1, rfl, k1 _ _ hC51, k4, _, i, O₂, rfl, n₂.trans pn, ⟨n₂.stands.none hn, dx, _, _, m, t, g₂.inv.fresh hn, g₂.inv.fresh k2, k4, rfl, rfl, rfl, rfl, hm1, hm2, .inl rfl⟩, hE⟩
mutual
theorem ws_ok : ∀ st : St, st.wf env.kindOf k = true → StOk C c A env N L k st
  | .assign i q e p, w => by
    simp only [St.wf, Bool.and_eq_true, decide_eq_true_eq] at w
    exact assign_ok hC hh act w.1 w.2
  | .unpack i j q q' t e p, w => by
    simp only [St.wf, Bool.and_eq_true, decide_eq_true_eq, Bool.not_eq_true'] at w
    exact unpack_ok hC hh act w.1.1.1 w.1.1.2 w.1.2 w.2
  | .setsub o i t e p, w => by
    simp only [St.wf, Bool.and_eq_true] at w
    exact setsub_ok hC hh act w.1.1 w.1.2 w.2
  | .aug i q o e p, w => by
    simp only [St.wf, Bool.and_eq_true, decide_eq_true_eq] at w
    exact aug_ok hC hh act w.1 w.2
  | .expr e p, w => by
    simp only [St.wf] at w
    exact expr_ok hC hh act w
  | .ret e p, w => by
    simp only [St.wf] at w
    exact ret_ok hC hh act w
  | .ifs t b o p, w => by
    simp only [St.wf, Bool.and_eq_true] at w
    exact ifs_ok hC hh act w.1.1 (wsb_ok b w.1.2) (wsb_ok o w.2)
  | .whil t b p, w => by
    simp only [St.wf, Bool.and_eq_true] at w
    exact whil_ok hC hh act w.1 (wsb_ok b w.2)
  | .fore i q it b p, w => by
    simp only [St.wf, Bool.and_eq_true, decide_eq_true_eq] at w
    exact fore_ok hC hh act w.1.1 w.1.2 (wsb_ok b w.2)
  | .brk p, w => fun s₀ O₀ σ O s K E hst h₀ hk nx g h => by
    simp only [ws] at h
    exact wpAny_Break ⟨O, nx, σ, g, hk, h⟩
  | .cont p, w => fun s₀ O₀ σ O s K E hst h₀ hk nx g h => by
    simp only [ws] at h
    exact wpAny_Continue ⟨O, nx, σ, g, hk, h⟩
  | .raise a b q c p, w => by
    simp only [St.wf, Bool.and_eq_true] at w
    exact raise_ok hC hh act w.1.1 w.1.2 w.2
  | .tryRet b nm q e r h p, w => try_ok hC hh act w
theorem wsb_ok : ∀ b : Sts, b.wf env.kindOf k = true → StsOk C c A env N L k b
  | .nil, w => fun s₀ O₀ σ O s K E hst h₀ hk nx g h => by
    simp only [wsb] at h
    exact wpAny_execs_nil ⟨O, nx, σ, g, hk, h⟩
  | .cons st b, w => fun s₀ O₀ σ O s K E hst h₀ hk nx g h => by
    simp only [wsb] at h
    simp only [Sts.wf, Bool.and_eq_true] at w
    refine wpAny_execs_cons (wpAny_mono (ws_ok st w.1 s₀ O₀ σ O s _ E hst h₀ hk nx g h) (fun f s₁ ⟨O₁, n₁, h₁⟩ => ?_) fun _ _ x => x)
    cases f with
    | next => obtain ⟨σ₁, g₁, hk₁, h₁⟩ := h₁; exact wsb_ok b w.2 s₀ O₀ σ₁ O₁ s₁ K E hst h₀ hk₁ n₁ g₁ h₁
    | cont => obtain ⟨σ₁, g₁, hk₁, h₁⟩ := h₁; exact ⟨O₁, n₁, σ₁, g₁, hk₁, h₁⟩
    | brk => obtain ⟨σ₁, g₁, hk₁, h₁⟩ := h₁; exact ⟨O₁, n₁, σ₁, g₁, hk₁, h₁⟩
    | ret y => obtain ⟨σ₁, v, r₁, h₁⟩ := h₁; exact ⟨O₁, n₁, σ₁, v, r₁, h₁⟩
end
end
end Mine
end
section
open PySem PySem.W PySem.Calls PyProof.Rows
set_option Elab.async false
set_option maxRecDepth 4000
set_option linter.all false
namespace Mine
/-- a place in the text: line, column, last line, last column, three figures each -/
noncomputable def P (n : Nat) : Pos := ⟨n / 1000000000, n / 1000000 % 1000, n / 1000 % 1000, n % 1000⟩
noncomputable def d_closer_of_1 : Sts := .cons (.ret (.meth (.gl .CLOSERS (P 18011018018)) .get (P 18011018022) (.cons (.loc 0 (P 18023018030)) (.cons (.loc 0 (P 18032018039)) .nil)) (P 18011018040)) (P 18004018040)) .nil
noncomputable def d_line_of_place_1 : Sts := .cons (.ret (.bin .Add (.int 1 (P 20011020012)) (.meth (.slTo (.loc 0 (P 20015020019)) (.loc 1 (P 20021020023)) (P 20020020023) (P 20015020024)) .count (P 20015020030) (.cons (.str [10] (P 20031020035)) .nil) (P 20015020036)) (P 20011020036)) (P 20004020036)) .nil
noncomputable def d_delimited_1 : Sts := .cons (.cont (P 30012030020)) .nil
noncomputable def d_delimited_2 : Sts := .cons (.aug 5 (P 29012029015) .Add (.int 2 (P 29019029020)) (P 29012029020)) d_delimited_1
noncomputable def d_delimited_3 : Sts := .cons (.ret (.tup (.cons (.sl (.loc 0 (P 34024034028)) (.bin .Add (.loc 1 (P 34029034031)) (.int 1 (P 34034034035)) (P 34029034035)) (.loc 5 (P 34036034039)) (P 34029034039) (P 34024034040)) (.cons (.bin .Add (.loc 5 (P 34042034045)) (.int 1 (P 34048034049)) (P 34042034049)) .nil)) (P 34023034050)) (P 34016034050)) .nil
noncomputable def d_delimited_4 : Sts := .cons (.ifs (.cmp .Eq (.loc 4 (P 33015033020)) (.int 0 (P 33024033025)) (P 33015033025)) d_delimited_3 .nil (P 33012034050)) .nil
noncomputable def d_delimited_5 : Sts := .cons (.aug 4 (P 32012032017) .Sub (.int 1 (P 32021032022)) (P 32012032022)) d_delimited_4
noncomputable def d_delimited_6 : Sts := .cons (.aug 4 (P 36012036017) .Add (.int 1 (P 36021036022)) (P 36012036022)) .nil
noncomputable def d_delimited_7 : Sts := .cons (.ifs (.cmp .Eq (.loc 6 (P 35013035017)) (.loc 2 (P 35021035028)) (P 35013035028)) d_delimited_6 .nil (P 35008036022)) .nil
noncomputable def d_delimited_8 : Sts := .cons (.aug 5 (P 37008037011) .Add (.int 1 (P 37015037016)) (P 37008037016)) .nil
noncomputable def d_delimited_9 : Sts := .cons (.ifs (.cmp .Eq (.loc 6 (P 31011031015)) (.loc 3 (P 31019031026)) (P 31011031026)) d_delimited_5 d_delimited_7 (P 31008036022)) d_delimited_8
noncomputable def d_delimited_10 : Sts := .cons (.ifs (.cmp .Eq (.loc 6 (P 28011028015)) (.str [92] (P 28019028023)) (P 28011028023)) d_delimited_2 .nil (P 28008030020)) d_delimited_9
noncomputable def d_delimited_11 : Sts := .cons (.assign 6 (P 27008027012) (.sub (.loc 0 (P 27015027019)) (.loc 5 (P 27020027023)) (P 27015027024)) (P 27008027024)) d_delimited_10
noncomputable def d_delimited_12 : Sts := .cons (.raise (.str [67, 97, 110, 39, 116, 32, 102, 105, 110, 100, 32, 115, 116, 114, 105, 110, 103, 32, 116, 101, 114, 109, 105, 110, 97, 116, 111, 114, 32, 97, 110, 121, 119, 104, 101, 114, 101, 32, 98, 101, 102, 111, 114, 101, 32, 69, 79, 70] (P 38020038070)) (.call .line_of_place (P 38072038085) (.cons (.loc 0 (P 38086038090)) (.cons (.loc 1 (P 38092038094)) .nil)) (P 38072038095)) (P 38010038019) (P 38010038096) (P 38004038096)) .nil
noncomputable def d_delimited_13 : Sts := .cons (.whil (.cmp .Lt (.loc 5 (P 26010026013)) (.bcall .len (P 26016026019) (.loc 0 (P 26020026024)) (P 26016026025)) (P 26010026025)) d_delimited_11 (P 26004037016)) d_delimited_12
noncomputable def d_delimited_14 : Sts := .cons (.assign 5 (P 25004025007) (.bin .Add (.loc 1 (P 25010025012)) (.int 1 (P 25015025016)) (P 25010025016)) (P 25004025016)) d_delimited_13
noncomputable def d_delimited_15 : Sts := .cons (.assign 4 (P 24004024009) (.int 1 (P 24012024013)) (P 24004024013)) d_delimited_14
noncomputable def d_delimited_16 : Sts := .cons (.assign 3 (P 23004023011) (.call .closer_of (P 23014023023) (.cons (.loc 2 (P 23024023031)) .nil) (P 23014023032)) (P 23004023032)) d_delimited_15
noncomputable def d_delimited_17 : Sts := .cons (.assign 2 (P 22004022011) (.sl (.loc 0 (P 22014022018)) (.loc 1 (P 22019022021)) (.bin .Add (.loc 1 (P 22022022024)) (.int 1 (P 22027022028)) (P 22022022028)) (P 22019022028) (P 22014022029)) (P 22004022029)) d_delimited_16
noncomputable def d_unguarded_1 : Sts := .cons (.cont (P 48012048020)) .nil
noncomputable def d_unguarded_2 : Sts := .cons (.aug 5 (P 47012047014) .Add (.int 1 (P 47018047019)) (P 47012047019)) d_unguarded_1
noncomputable def d_unguarded_3 : Sts := .cons (.aug 4 (P 46012046015) .Add (.sub (.loc 0 (P 46019046024)) (.loc 5 (P 46025046027)) (P 46019046028)) (P 46012046028)) d_unguarded_2
noncomputable def d_unguarded_4 : Sts := .cons (.aug 4 (P 50012050015) .Add (.loc 6 (P 50019050027)) (P 50012050027)) .nil
noncomputable def d_unguarded_5 : Sts := .cons (.aug 4 (P 52012052015) .Add (.sl (.loc 0 (P 52019052024)) (.loc 5 (P 52025052027)) (.bin .Add (.loc 5 (P 52028052030)) (.int 2 (P 52033052034)) (P 52028052034)) (P 52025052034) (P 52019052035)) (P 52012052035)) .nil
noncomputable def d_unguarded_6 : Sts := .cons (.aug 5 (P 53008053010) .Add (.int 2 (P 53014053015)) (P 53008053015)) .nil
noncomputable def d_unguarded_7 : Sts := .cons (.ifs (.boolop .Or (.cmp .Eq (.loc 6 (P 49011049019)) (.loc 1 (P 49023049030)) (P 49011049030)) (.cons (.cmp .Eq (.loc 6 (P 49034049042)) (.loc 3 (P 49046049053)) (P 49034049053)) (.cons (.boolop .And (.loc 2 (P 49058049066)) (.cons (.cmp .Eq (.loc 6 (P 49071049079)) (.str [92] (P 49083049087)) (P 49071049087)) .nil) (P 49058049087)) .nil)) (P 49011049088)) d_unguarded_4 d_unguarded_5 (P 49008052035)) d_unguarded_6
noncomputable def d_unguarded_8 : Sts := .cons (.ifs (.boolop .Or (.cmp .NotEq (.sub (.loc 0 (P 45011045016)) (.loc 5 (P 45017045019)) (P 45011045020)) (.str [92] (P 45024045028)) (P 45011045028)) (.cons (.cmp .Eq (.loc 6 (P 45032045040)) (.str [] (P 45044045046)) (P 45032045046)) .nil) (P 45011045046)) d_unguarded_3 .nil (P 45008048020)) d_unguarded_7
noncomputable def d_unguarded_9 : Sts := .cons (.assign 6 (P 44008044016) (.sl (.loc 0 (P 44019044024)) (.bin .Add (.loc 5 (P 44025044027)) (.int 1 (P 44030044031)) (P 44025044031)) (.bin .Add (.loc 5 (P 44032044034)) (.int 2 (P 44037044038)) (P 44032044038)) (P 44025044038) (P 44019044039)) (P 44008044039)) d_unguarded_8
noncomputable def d_unguarded_10 : Sts := .cons (.ret (.loc 4 (P 54011054014)) (P 54004054014)) .nil
noncomputable def d_unguarded_11 : Sts := .cons (.whil (.cmp .Lt (.loc 5 (P 43010043012)) (.bcall .len (P 43015043018) (.loc 0 (P 43019043024)) (P 43015043025)) (P 43010043025)) d_unguarded_9 (P 43004053015)) d_unguarded_10
noncomputable def d_unguarded_12 : Sts := .cons (.assign 5 (P 42004042006) (.int 0 (P 42009042010)) (P 42004042010)) d_unguarded_11
noncomputable def d_unguarded_13 : Sts := .cons (.assign 4 (P 41004041007) (.str [] (P 41010041012)) (P 41004041012)) d_unguarded_12
noncomputable def d_unguarded_14 : Sts := .cons (.assign 3 (P 40004040011) (.call .closer_of (P 40014040023) (.cons (.loc 1 (P 40024040031)) .nil) (P 40014040032)) (P 40004040032)) d_unguarded_13
noncomputable def d_read_q_1 : Sts := .cons (.ret (.call .unguarded (P 56011056020) (.cons (.loc 0 (P 56021056026)) (.cons (.loc 1 (P 56028056035)) (.cons (.bool true (P 56037056041)) .nil))) (P 56011056042)) (P 56004056042)) .nil
noncomputable def d_read_qw_1 : Sts := .cons (.expr (.meth (.loc 1 (P 63016063021)) .append (P 63016063028) (.cons (.loc 2 (P 63029063033)) .nil) (P 63016063034)) (P 63016063034)) .nil
noncomputable def d_read_qw_2 : Sts := .cons (.assign 2 (P 64012064016) (.str [] (P 64019064021)) (P 64012064021)) .nil
noncomputable def d_read_qw_3 : Sts := .cons (.ifs (.cmp .NotEq (.loc 2 (P 62015062019)) (.str [] (P 62023062025)) (P 62015062025)) d_read_qw_1 .nil (P 62012063034)) d_read_qw_2
noncomputable def d_read_qw_4 : Sts := .cons (.aug 2 (P 66012066016) .Add (.loc 3 (P 66020066024)) (P 66012066024)) .nil
noncomputable def d_read_qw_5 : Sts := .cons (.ifs (.cmp .In (.loc 3 (P 61011061015)) (.str [32, 9, 10, 13, 12] (P 61019061032)) (P 61011061032)) d_read_qw_3 d_read_qw_4 (P 61008066024)) .nil
noncomputable def d_read_qw_6 : Sts := .cons (.expr (.meth (.loc 1 (P 68008068013)) .append (P 68008068020) (.cons (.loc 2 (P 68021068025)) .nil) (P 68008068026)) (P 68008068026)) .nil
noncomputable def d_read_qw_7 : Sts := .cons (.ret (.loc 1 (P 69011069016)) (P 69004069016)) .nil
noncomputable def d_read_qw_8 : Sts := .cons (.ifs (.cmp .NotEq (.loc 2 (P 67007067011)) (.str [] (P 67015067017)) (P 67007067017)) d_read_qw_6 .nil (P 67004068026)) d_read_qw_7
noncomputable def d_read_qw_9 : Sts := .cons (.fore 3 (P 60008060012) (.call .unguarded (P 60016060025) (.cons (.loc 0 (P 60026060031)) (.cons (.str [92] (P 60033060037)) (.cons (.bool true (P 60039060043)) .nil))) (P 60016060044)) d_read_qw_5 (P 60004066024)) d_read_qw_8
noncomputable def d_read_qw_10 : Sts := .cons (.assign 2 (P 59004059008) (.str [] (P 59011059013)) (P 59004059013)) d_read_qw_9
noncomputable def d_read_qw_11 : Sts := .cons (.assign 1 (P 58004058009) (.list true .nil (P 58012058014)) (P 58004058014)) d_read_qw_10
noncomputable def d_digits_value_1 : Sts := .cons (.brk (P 76012076017)) .nil
noncomputable def d_digits_value_2 : Sts := .cons (.aug 5 (P 78008078011) .Add (.int 1 (P 78015078016)) (P 78008078016)) .nil
noncomputable def d_digits_value_3 : Sts := .cons (.assign 4 (P 77008077013) (.bin .Add (.bin .Mult (.loc 4 (P 77016077021)) (.loc 3 (P 77024077028)) (P 77016077028)) (.loc 6 (P 77031077036)) (P 77016077036)) (P 77008077036)) d_digits_value_2
noncomputable def d_digits_value_4 : Sts := .cons (.ifs (.boolop .Or (.cmp .Lt (.loc 6 (P 75011075016)) (.int 0 (P 75019075020)) (P 75011075020)) (.cons (.cmp .GtE (.loc 6 (P 75024075029)) (.loc 3 (P 75033075037)) (P 75024075037)) .nil) (P 75011075037)) d_digits_value_1 .nil (P 75008076017)) d_digits_value_3
noncomputable def d_digits_value_5 : Sts := .cons (.assign 6 (P 74008074013) (.meth (.gl .CODE_FIGURES (P 74016074028)) .find (P 74016074033) (.cons (.meth (.sub (.loc 0 (P 74034074038)) (.loc 5 (P 74039074042)) (P 74034074043)) .lower (P 74034074049) .nil (P 74034074051)) .nil) (P 74016074052)) (P 74008074052)) d_digits_value_4
noncomputable def d_digits_value_6 : Sts := .cons (.ret (.tup (.cons (.loc 4 (P 79012079017)) (.cons (.loc 5 (P 79019079022)) .nil)) (P 79011079023)) (P 79004079023)) .nil
noncomputable def d_digits_value_7 : Sts := .cons (.whil (.boolop .And (.cmp .Lt (.loc 5 (P 73010073013)) (.bcall .len (P 73016073019) (.loc 0 (P 73020073024)) (P 73016073025)) (P 73010073025)) (.cons (.cmp .Lt (.loc 5 (P 73030073033)) (.bin .Add (.loc 1 (P 73036073038)) (.loc 2 (P 73041073045)) (P 73036073045)) (P 73030073045)) .nil) (P 73010073045)) d_digits_value_5 (P 73004078016)) d_digits_value_6
noncomputable def d_digits_value_8 : Sts := .cons (.assign 5 (P 72004072007) (.loc 1 (P 72010072012)) (P 72004072012)) d_digits_value_7
noncomputable def d_digits_value_9 : Sts := .cons (.assign 4 (P 71004071009) (.int 0 (P 71012071013)) (P 71004071013)) d_digits_value_8
noncomputable def d_coded_sign_1 : Sts := .cons (.raise (.str [99, 111, 100, 101, 32, 112, 111, 105, 110, 116, 32, 116, 111, 111, 32, 103, 114, 101, 97, 116] (P 82024082046)) (.int 0 (P 82048082049)) (P 82014082023) (P 82014082050) (P 82008082050)) .nil
noncomputable def d_coded_sign_2 : Sts := .cons (.ret (.bcall .chr (P 83011083014) (.loc 0 (P 83015083019)) (P 83011083020)) (P 83004083020)) .nil
noncomputable def d_coded_sign_3 : Sts := .cons (.ifs (.cmp .Gt (.loc 0 (P 81007081011)) (.gl .TOP_CODE (P 81014081022)) (P 81007081022)) d_coded_sign_1 .nil (P 81004082050)) d_coded_sign_2
noncomputable def d_braced_code_1 : Sts := .cons (.raise (.str [77, 105, 115, 115, 105, 110, 103, 32, 114, 105, 103, 104, 116, 32, 98, 114, 97, 99, 101] (P 87024087045)) (.int 0 (P 87047087048)) (P 87014087023) (P 87014087049) (P 87008087049)) .nil
noncomputable def d_braced_code_2 : Sts := .cons (.ret (.tup (.cons (.call .coded_sign (P 89012089022) (.cons (.loc 4 (P 89023089028)) .nil) (P 89012089029)) (.cons (.bin .Add (.loc 3 (P 89031089034)) (.int 1 (P 89037089038)) (P 89031089038)) .nil)) (P 89011089039)) (P 89004089039)) .nil
noncomputable def d_braced_code_3 : Sts := .cons (.unpack 4 5 (P 88004088009) (P 88011088017) (P 88004088017) (.call .digits_value (P 88020088032) (.cons (.slTo (.loc 0 (P 88033088037)) (.loc 3 (P 88039088042)) (P 88038088042) (P 88033088043)) (.cons (.bin .Add (.loc 1 (P 88045088047)) (.int 1 (P 88050088051)) (P 88045088051)) (.cons (.int 8 (P 88053088054)) (.cons (.loc 2 (P 88056088060)) .nil)))) (P 88020088061)) (P 88004088061)) d_braced_code_2
noncomputable def d_braced_code_4 : Sts := .cons (.ifs (.cmp .Lt (.loc 3 (P 86007086010)) (.int 0 (P 86013086014)) (P 86007086014)) d_braced_code_1 .nil (P 86004087049)) d_braced_code_3
noncomputable def d_braced_code_5 : Sts := .cons (.assign 3 (P 85004085007) (.meth (.loc 0 (P 85010085014)) .find (P 85010085019) (.cons (.str [125] (P 85020085023)) (.cons (.loc 1 (P 85025085027)) .nil)) (P 85010085028)) (P 85004085028)) d_braced_code_4
noncomputable def d_escape_at_1 : Sts := .cons (.ret (.tup (.cons (.str [92] (P 93016093020)) (.cons (.bin .Add (.loc 1 (P 93022093024)) (.int 1 (P 93027093028)) (P 93022093028)) .nil)) (P 93015093029)) (P 93008093029)) .nil
noncomputable def d_escape_at_2 : Sts := .cons (.ret (.tup (.cons (.sub (.gl .SHORT_ESCAPES (P 95016095029)) (.loc 2 (P 95030095034)) (P 95016095035)) (.cons (.bin .Add (.loc 1 (P 95037095039)) (.int 2 (P 95042095043)) (P 95037095043)) .nil)) (P 95015095044)) (P 95008095044)) .nil
noncomputable def d_escape_at_3 : Sts := .cons (.ret (.tup (.cons (.bcall .chr (P 98016098019) (.loc 3 (P 98020098025)) (P 98016098026)) (.cons (.loc 4 (P 98028098031)) .nil)) (P 98015098032)) (P 98008098032)) .nil
noncomputable def d_escape_at_4 : Sts := .cons (.unpack 3 4 (P 97008097013) (P 97015097018) (P 97008097018) (.call .digits_value (P 97021097033) (.cons (.loc 0 (P 97034097038)) (.cons (.bin .Add (.loc 1 (P 97040097042)) (.int 1 (P 97045097046)) (P 97040097046)) (.cons (.int 3 (P 97048097049)) (.cons (.int 8 (P 97051097052)) .nil)))) (P 97021097053)) (P 97008097053)) d_escape_at_3
noncomputable def d_escape_at_5 : Sts := .cons (.ret (.call .braced_code (P 100015100026) (.cons (.loc 0 (P 100027100031)) (.cons (.bin .Add (.loc 1 (P 100033100035)) (.int 2 (P 100038100039)) (P 100033100039)) (.cons (.int 16 (P 100041100043)) .nil))) (P 100015100044)) (P 100008100044)) .nil
noncomputable def d_escape_at_6 : Sts := .cons (.ret (.call .braced_code (P 102015102026) (.cons (.loc 0 (P 102027102031)) (.cons (.bin .Add (.loc 1 (P 102033102035)) (.int 2 (P 102038102039)) (P 102033102039)) (.cons (.int 8 (P 102041102042)) .nil))) (P 102015102043)) (P 102008102043)) .nil
noncomputable def d_escape_at_7 : Sts := .cons (.ret (.tup (.cons (.bcall .chr (P 105016105019) (.loc 3 (P 105020105025)) (P 105016105026)) (.cons (.loc 4 (P 105028105031)) .nil)) (P 105015105032)) (P 105008105032)) .nil
noncomputable def d_escape_at_8 : Sts := .cons (.unpack 3 4 (P 104008104013) (P 104015104018) (P 104008104018) (.call .digits_value (P 104021104033) (.cons (.loc 0 (P 104034104038)) (.cons (.bin .Add (.loc 1 (P 104040104042)) (.int 2 (P 104045104046)) (P 104040104046)) (.cons (.int 2 (P 104048104049)) (.cons (.int 16 (P 104051104053)) .nil)))) (P 104021104054)) (P 104008104054)) d_escape_at_7
noncomputable def d_escape_at_9 : Sts := .cons (.ret (.call .braced_code (P 107015107026) (.cons (.loc 0 (P 107027107031)) (.cons (.bin .Add (.loc 1 (P 107033107035)) (.int 4 (P 107038107039)) (P 107033107039)) (.cons (.int 16 (P 107041107043)) .nil))) (P 107015107044)) (P 107008107044)) .nil
noncomputable def d_escape_at_10 : Sts := .cons (.ret (.tup (.cons (.bcall .chr (P 109016109019) (.bin .BitXor (.bcall .ord (P 109020109023) (.call .great_letter (P 109024109036) (.cons (.sub (.loc 0 (P 109037109041)) (.bin .Add (.loc 1 (P 109042109044)) (.int 2 (P 109047109048)) (P 109042109048)) (P 109037109049)) .nil) (P 109024109050)) (P 109020109051)) (.int 64 (P 109054109056)) (P 109020109056)) (P 109016109057)) (.cons (.bin .Add (.loc 1 (P 109059109061)) (.int 3 (P 109064109065)) (P 109059109065)) .nil)) (P 109015109066)) (P 109008109066)) .nil
noncomputable def d_escape_at_11 : Sts := .cons (.ret (.tup (.cons (.loc 2 (P 110012110016)) (.cons (.bin .Add (.loc 1 (P 110018110020)) (.int 2 (P 110023110024)) (P 110018110024)) .nil)) (P 110011110025)) (P 110004110025)) .nil
noncomputable def d_escape_at_12 : Sts := .cons (.ifs (.boolop .And (.cmp .Eq (.loc 2 (P 108007108011)) (.str [99] (P 108015108018)) (P 108007108018)) (.cons (.cmp .NotEq (.sl (.loc 0 (P 108023108027)) (.bin .Add (.loc 1 (P 108028108030)) (.int 2 (P 108033108034)) (P 108028108034)) (.bin .Add (.loc 1 (P 108035108037)) (.int 3 (P 108040108041)) (P 108035108041)) (P 108028108041) (P 108023108042)) (.str [] (P 108046108048)) (P 108023108048)) .nil) (P 108007108048)) d_escape_at_10 .nil (P 108004109066)) d_escape_at_11
noncomputable def d_escape_at_13 : Sts := .cons (.ifs (.boolop .And (.cmp .Eq (.loc 2 (P 106007106011)) (.str [78] (P 106015106018)) (P 106007106018)) (.cons (.cmp .Eq (.sl (.loc 0 (P 106023106027)) (.bin .Add (.loc 1 (P 106028106030)) (.int 2 (P 106033106034)) (P 106028106034)) (.bin .Add (.loc 1 (P 106035106037)) (.int 5 (P 106040106041)) (P 106035106041)) (P 106028106041) (P 106023106042)) (.str [123, 85, 43] (P 106046106051)) (P 106023106051)) .nil) (P 106007106051)) d_escape_at_9 .nil (P 106004107044)) d_escape_at_12
noncomputable def d_escape_at_14 : Sts := .cons (.ifs (.cmp .Eq (.loc 2 (P 103007103011)) (.str [120] (P 103015103018)) (P 103007103018)) d_escape_at_8 .nil (P 103004105032)) d_escape_at_13
noncomputable def d_escape_at_15 : Sts := .cons (.ifs (.boolop .And (.cmp .Eq (.loc 2 (P 101007101011)) (.str [111] (P 101015101018)) (P 101007101018)) (.cons (.cmp .Eq (.sl (.loc 0 (P 101023101027)) (.bin .Add (.loc 1 (P 101028101030)) (.int 2 (P 101033101034)) (P 101028101034)) (.bin .Add (.loc 1 (P 101035101037)) (.int 3 (P 101040101041)) (P 101035101041)) (P 101028101041) (P 101023101042)) (.str [123] (P 101046101049)) (P 101023101049)) .nil) (P 101007101049)) d_escape_at_6 .nil (P 101004102043)) d_escape_at_14
noncomputable def d_escape_at_16 : Sts := .cons (.ifs (.boolop .And (.cmp .Eq (.loc 2 (P 99007099011)) (.str [120] (P 99015099018)) (P 99007099018)) (.cons (.cmp .Eq (.sl (.loc 0 (P 99023099027)) (.bin .Add (.loc 1 (P 99028099030)) (.int 2 (P 99033099034)) (P 99028099034)) (.bin .Add (.loc 1 (P 99035099037)) (.int 3 (P 99040099041)) (P 99035099041)) (P 99028099041) (P 99023099042)) (.str [123] (P 99046099049)) (P 99023099049)) .nil) (P 99007099049)) d_escape_at_5 .nil (P 99004100044)) d_escape_at_15
noncomputable def d_escape_at_17 : Sts := .cons (.ifs (.cmp .In (.loc 2 (P 96007096011)) (.str [48, 49, 50, 51, 52, 53, 54, 55] (P 96015096025)) (P 96007096025)) d_escape_at_4 .nil (P 96004098032)) d_escape_at_16
noncomputable def d_escape_at_18 : Sts := .cons (.ifs (.cmp .In (.loc 2 (P 94007094011)) (.gl .SHORT_ESCAPES (P 94015094028)) (P 94007094028)) d_escape_at_2 .nil (P 94004095044)) d_escape_at_17
noncomputable def d_escape_at_19 : Sts := .cons (.ifs (.cmp .Eq (.loc 2 (P 92007092011)) (.str [] (P 92015092017)) (P 92007092017)) d_escape_at_1 .nil (P 92004093029)) d_escape_at_18
noncomputable def d_escape_at_20 : Sts := .cons (.assign 2 (P 91004091008) (.sl (.loc 0 (P 91011091015)) (.bin .Add (.loc 1 (P 91016091018)) (.int 1 (P 91021091022)) (P 91016091022)) (.bin .Add (.loc 1 (P 91023091025)) (.int 2 (P 91028091029)) (P 91023091029)) (P 91016091029) (P 91011091030)) (P 91004091030)) d_escape_at_19
noncomputable def d_great_letter_1 : Sts := .cons (.ret (.bcall .chr (P 113015113018) (.bin .Sub (.bcall .ord (P 113019113022) (.loc 0 (P 113023113027)) (P 113019113028)) (.int 32 (P 113031113033)) (P 113019113033)) (P 113015113034)) (P 113008113034)) .nil
noncomputable def d_great_letter_2 : Sts := .cons (.ret (.loc 0 (P 114011114015)) (P 114004114015)) .nil
noncomputable def d_great_letter_3 : Sts := .cons (.ifs (.cmp2 .LtE .LtE (.str [97] (P 112007112010)) (.loc 0 (P 112014112018)) (.str [122] (P 112022112025)) (P 112007112025)) d_great_letter_1 .nil (P 112004113034)) d_great_letter_2
noncomputable def d_small_letter_1 : Sts := .cons (.ret (.bcall .chr (P 117015117018) (.bin .Add (.bcall .ord (P 117019117022) (.loc 0 (P 117023117027)) (P 117019117028)) (.int 32 (P 117031117033)) (P 117019117033)) (P 117015117034)) (P 117008117034)) .nil
noncomputable def d_small_letter_2 : Sts := .cons (.ret (.loc 0 (P 118011118015)) (P 118004118015)) .nil
noncomputable def d_small_letter_3 : Sts := .cons (.ifs (.cmp2 .LtE .LtE (.str [65] (P 116007116010)) (.loc 0 (P 116014116018)) (.str [90] (P 116022116025)) (P 116007116025)) d_small_letter_1 .nil (P 116004117034)) d_small_letter_2
noncomputable def d_is_plain_word_sign_1 : Sts := .cons (.ret (.boolop .Or (.cmp2 .LtE .LtE (.str [97] (P 120011120014)) (.loc 0 (P 120018120022)) (.str [122] (P 120026120029)) (P 120011120029)) (.cons (.cmp2 .LtE .LtE (.str [65] (P 120033120036)) (.loc 0 (P 120040120044)) (.str [90] (P 120048120051)) (P 120033120051)) (.cons (.cmp2 .LtE .LtE (.str [48] (P 120055120058)) (.loc 0 (P 120062120066)) (.str [57] (P 120070120073)) (P 120055120073)) (.cons (.cmp .Eq (.loc 0 (P 120078120082)) (.str [95] (P 120086120089)) (P 120078120089)) .nil))) (P 120011120090)) (P 120004120090)) .nil
noncomputable def d_cased_text_1 : Sts := .cons (.ret (.bin .Add (.call .cased_text (P 123015123025) (.cons (.str [85] (P 123026123029)) (.cons (.slTo (.loc 1 (P 123031123035)) (.int 1 (P 123037123038)) (P 123036123038) (P 123031123039)) .nil)) (P 123015123040)) (.slFrom (.loc 1 (P 123043123047)) (.int 1 (P 123048123049)) (P 123048123050) (P 123043123051)) (P 123015123051)) (P 123008123051)) .nil
noncomputable def d_cased_text_2 : Sts := .cons (.ret (.bin .Add (.call .cased_text (P 125015125025) (.cons (.str [76] (P 125026125029)) (.cons (.slTo (.loc 1 (P 125031125035)) (.int 1 (P 125037125038)) (P 125036125038) (P 125031125039)) .nil)) (P 125015125040)) (.slFrom (.loc 1 (P 125043125047)) (.int 1 (P 125048125049)) (P 125048125050) (P 125043125051)) (P 125015125051)) (P 125008125051)) .nil
noncomputable def d_cased_text_3 : Sts := .cons (.aug 2 (P 129012129015) .Add (.call .great_letter (P 129019129031) (.cons (.loc 3 (P 129032129036)) .nil) (P 129019129037)) (P 129012129037)) .nil
noncomputable def d_cased_text_4 : Sts := .cons (.aug 2 (P 132016132019) .Add (.str [92] (P 132023132027)) (P 132016132027)) .nil
noncomputable def d_cased_text_5 : Sts := .cons (.aug 2 (P 133012133015) .Add (.loc 3 (P 133019133023)) (P 133012133023)) .nil
noncomputable def d_cased_text_6 : Sts := .cons (.ifs (.boolop .And (.not (.call .is_plain_word_sign (P 131019131037) (.cons (.loc 3 (P 131038131042)) .nil) (P 131019131043)) (P 131015131043)) (.cons (.cmp .Lt (.bcall .ord (P 131048131051) (.loc 3 (P 131052131056)) (P 131048131057)) (.int 128 (P 131060131063)) (P 131048131063)) .nil) (P 131015131063)) d_cased_text_4 .nil (P 131012132027)) d_cased_text_5
noncomputable def d_cased_text_7 : Sts := .cons (.aug 2 (P 135012135015) .Add (.call .small_letter (P 135019135031) (.cons (.loc 3 (P 135032135036)) .nil) (P 135019135037)) (P 135012135037)) .nil
noncomputable def d_cased_text_8 : Sts := .cons (.ifs (.cmp .Eq (.loc 0 (P 130013130017)) (.str [81] (P 130021130024)) (P 130013130024)) d_cased_text_6 d_cased_text_7 (P 130008135037)) .nil
noncomputable def d_cased_text_9 : Sts := .cons (.ifs (.cmp .Eq (.loc 0 (P 128011128015)) (.str [85] (P 128019128022)) (P 128011128022)) d_cased_text_3 d_cased_text_8 (P 128008135037)) .nil
noncomputable def d_cased_text_10 : Sts := .cons (.ret (.loc 2 (P 136011136014)) (P 136004136014)) .nil
noncomputable def d_cased_text_11 : Sts := .cons (.fore 3 (P 127008127012) (.loc 1 (P 127016127020)) d_cased_text_9 (P 127004135037)) d_cased_text_10
noncomputable def d_cased_text_12 : Sts := .cons (.assign 2 (P 126004126007) (.str [] (P 126010126012)) (P 126004126012)) d_cased_text_11
noncomputable def d_cased_text_13 : Sts := .cons (.ifs (.cmp .Eq (.loc 0 (P 124007124011)) (.str [108] (P 124015124018)) (P 124007124018)) d_cased_text_2 .nil (P 124004125051)) d_cased_text_12
noncomputable def d_cased_text_14 : Sts := .cons (.ifs (.cmp .Eq (.loc 0 (P 122007122011)) (.str [117] (P 122015122018)) (P 122007122018)) d_cased_text_1 .nil (P 122004123051)) d_cased_text_13
noncomputable def d_here_end_1 : Sts := .cons (.assign 5 (P 141012141015) (.meth (.loc 5 (P 141018141021)) .lstrip (P 141018141028) (.cons (.str [32, 9] (P 141029141034)) .nil) (P 141018141035)) (P 141012141035)) .nil
noncomputable def d_here_end_2 : Sts := .cons (.ret (.loc 4 (P 143019143022)) (P 143012143022)) .nil
noncomputable def d_here_end_3 : Sts := .cons (.ifs (.cmp .Eq (.loc 5 (P 142011142014)) (.loc 2 (P 142018142022)) (P 142011142022)) d_here_end_2 .nil (P 142008143022)) .nil
noncomputable def d_here_end_4 : Sts := .cons (.ifs (.loc 3 (P 140011140022)) d_here_end_1 .nil (P 140008141035)) d_here_end_3
noncomputable def d_here_end_5 : Sts := .cons (.assign 5 (P 139008139011) (.sub (.loc 0 (P 139014139019)) (.loc 4 (P 139020139023)) (P 139014139024)) (P 139008139024)) d_here_end_4
noncomputable def d_here_end_6 : Sts := .cons (.raise (.str [67, 97, 110, 39, 116, 32, 102, 105, 110, 100, 32, 115, 116, 114, 105, 110, 103, 32, 116, 101, 114, 109, 105, 110, 97, 116, 111, 114, 32, 97, 110, 121, 119, 104, 101, 114, 101, 32, 98, 101, 102, 111, 114, 101, 32, 69, 79, 70] (P 144020144070)) (.loc 1 (P 144072144074)) (P 144010144019) (P 144010144075) (P 144004144075)) .nil
noncomputable def d_here_end_7 : Sts := .cons (.fore 4 (P 138008138011) (.rng2 (P 138015138020) (.loc 1 (P 138021138023)) (.bcall .len (P 138025138028) (.loc 0 (P 138029138034)) (P 138025138035)) (P 138015138036)) d_here_end_5 (P 138004143022)) d_here_end_6
noncomputable def d_here_body_1 : Sts := .cons (.assign 8 (P 152012152015) (.slFrom (.loc 8 (P 152018152021)) (.bcall .len (P 152022152025) (.loc 5 (P 152026152032)) (P 152022152033)) (P 152022152034) (P 152018152035)) (P 152012152035)) .nil
noncomputable def d_here_body_2 : Sts := .cons (.raise (.str [73, 110, 100, 101, 110, 116, 97, 116, 105, 111, 110, 32, 111, 102, 32, 104, 101, 114, 101, 45, 100, 111, 99, 32, 100, 111, 101, 115, 110, 39, 116, 32, 109, 97, 116, 99, 104, 32, 100, 101, 108, 105, 109, 105, 116, 101, 114] (P 154028154077)) (.bin .Add (.loc 7 (P 154079154084)) (.int 1 (P 154087154088)) (P 154079154088)) (P 154018154027) (P 154018154089) (P 154012154089)) .nil
noncomputable def d_here_body_3 : Sts := .cons (.ifs (.cmp .NotEq (.loc 8 (P 153013153016)) (.str [] (P 153020153022)) (P 153013153022)) d_here_body_2 .nil (P 153008154089)) .nil
noncomputable def d_here_body_4 : Sts := .cons (.aug 6 (P 155008155012) .Add (.bin .Add (.loc 8 (P 155016155019)) (.str [10] (P 155022155026)) (P 155016155026)) (P 155008155026)) .nil
noncomputable def d_here_body_5 : Sts := .cons (.ifs (.cmp .Eq (.slTo (.loc 8 (P 151011151014)) (.bcall .len (P 151016151019) (.loc 5 (P 151020151026)) (P 151016151027)) (P 151015151027) (P 151011151028)) (.loc 5 (P 151032151038)) (P 151011151038)) d_here_body_1 d_here_body_3 (P 151008154089)) d_here_body_4
noncomputable def d_here_body_6 : Sts := .cons (.assign 8 (P 150008150011) (.sub (.loc 0 (P 150014150019)) (.loc 7 (P 150020150025)) (P 150014150026)) (P 150008150026)) d_here_body_5
noncomputable def d_here_body_7 : Sts := .cons (.ret (.tup (.cons (.loc 6 (P 156012156016)) (.cons (.bin .Add (.loc 4 (P 156018156021)) (.int 1 (P 156024156025)) (P 156018156025)) .nil)) (P 156011156026)) (P 156004156026)) .nil
noncomputable def d_here_body_8 : Sts := .cons (.fore 7 (P 149008149013) (.rng2 (P 149017149022) (.loc 1 (P 149023149025)) (.loc 4 (P 149027149030)) (P 149017149031)) d_here_body_6 (P 149004155026)) d_here_body_7
noncomputable def d_here_body_9 : Sts := .cons (.assign 6 (P 148004148008) (.str [] (P 148011148013)) (P 148004148013)) d_here_body_8
noncomputable def d_here_body_10 : Sts := .cons (.assign 5 (P 147004147010) (.slTo (.sub (.loc 0 (P 147013147018)) (.loc 4 (P 147019147022)) (P 147013147023)) (.bin .Sub (.bcall .len (P 147025147028) (.sub (.loc 0 (P 147029147034)) (.loc 4 (P 147035147038)) (P 147029147039)) (P 147025147040)) (.bcall .len (P 147043147046) (.loc 2 (P 147047147051)) (P 147043147052)) (P 147025147052)) (P 147024147052) (P 147013147053)) (P 147004147053)) d_here_body_9
noncomputable def d_here_body_11 : Sts := .cons (.assign 4 (P 146004146007) (.call .here_end (P 146010146018) (.cons (.loc 0 (P 146019146024)) (.cons (.loc 1 (P 146026146028)) (.cons (.loc 2 (P 146030146034)) (.cons (.loc 3 (P 146036146047)) .nil)))) (P 146010146048)) (P 146004146048)) d_here_body_10
noncomputable def d_add_part_1 : Sts := .cons (.setsub (.loc 2 (P 274008274013)) (.bin .Sub (.bcall .len (P 274014274017) (.loc 2 (P 274018274023)) (P 274014274024)) (.int 1 (P 274027274028)) (P 274014274028)) (P 274008274029) (.tup (.cons (.str [116, 101, 120, 116] (P 274033274039)) (.cons (.bin .Add (.sub (.sub (.loc 2 (P 274041274046)) (.bin .Sub (.bcall .len (P 274047274050) (.loc 2 (P 274051274056)) (P 274047274057)) (.int 1 (P 274060274061)) (P 274047274061)) (P 274041274062)) (.int 1 (P 274063274064)) (P 274041274065)) (.sub (.loc 1 (P 274068274072)) (.int 1 (P 274073274074)) (P 274068274075)) (P 274041274075)) .nil)) (P 274032274076)) (P 274008274076)) .nil
noncomputable def d_add_part_2 : Sts := .cons (.expr (.meth (.loc 2 (P 276008276013)) .append (P 276008276020) (.cons (.loc 1 (P 276021276025)) .nil) (P 276008276026)) (P 276008276026)) .nil
noncomputable def d_add_part_3 : Sts := .cons (.expr (.call .close_case (P 278008278018) (.cons (.loc 0 (P 278019278024)) .nil) (P 278008278025)) (P 278008278025)) .nil
noncomputable def d_add_part_4 : Sts := .cons (.ifs (.boolop .And (.cmp .In (.sub (.sub (.loc 0 (P 277007277012)) (.bin .Sub (.bcall .len (P 277013277016) (.loc 0 (P 277017277022)) (P 277013277023)) (.int 1 (P 277026277027)) (P 277013277027)) (P 277007277028)) (.int 0 (P 277029277030)) (P 277007277031)) (.gl .SHORT_CASES (P 277035277046)) (P 277007277046)) (.cons (.cmp .NotEq (.sub (.sub (.loc 0 (P 277051277056)) (.bin .Sub (.bcall .len (P 277057277060) (.loc 0 (P 277061277066)) (P 277057277067)) (.int 1 (P 277070277071)) (P 277057277071)) (P 277051277072)) (.int 0 (P 277073277074)) (P 277051277075)) (.str [] (P 277079277081)) (P 277051277081)) .nil) (P 277007277081)) d_add_part_3 .nil (P 277004278025)) .nil
noncomputable def d_add_part_5 : Sts := .cons (.ifs (.boolop .And (.cmp .Eq (.sub (.loc 1 (P 273007273011)) (.int 0 (P 273012273013)) (P 273007273014)) (.str [116, 101, 120, 116] (P 273018273024)) (P 273007273024)) (.cons (.cmp .Gt (.bcall .len (P 273029273032) (.loc 2 (P 273033273038)) (P 273029273039)) (.int 0 (P 273042273043)) (P 273029273043)) (.cons (.cmp .Eq (.sub (.sub (.loc 2 (P 273049273054)) (.bin .Sub (.bcall .len (P 273055273058) (.loc 2 (P 273059273064)) (P 273055273065)) (.int 1 (P 273068273069)) (P 273055273069)) (P 273049273070)) (.int 0 (P 273071273072)) (P 273049273073)) (.str [116, 101, 120, 116] (P 273077273083)) (P 273049273083)) .nil)) (P 273007273084)) d_add_part_1 d_add_part_2 (P 273004276026)) d_add_part_4
noncomputable def d_add_part_6 : Sts := .cons (.assign 2 (P 272004272009) (.sub (.sub (.loc 0 (P 272012272017)) (.bin .Sub (.bcall .len (P 272018272021) (.loc 0 (P 272022272027)) (P 272018272028)) (.int 1 (P 272031272032)) (P 272018272032)) (P 272012272033)) (.int 1 (P 272034272035)) (P 272012272036)) (P 272004272036)) d_add_part_5
noncomputable def d_close_case_1 : Sts := .cons (.expr (.call .add_part (P 282008282016) (.cons (.loc 0 (P 282017282022)) (.cons (.tup (.cons (.str [116, 101, 120, 116] (P 282025282031)) (.cons (.call .cased_text (P 282033282043) (.cons (.loc 1 (P 282044282048)) (.cons (.sub (.sub (.loc 2 (P 282050282055)) (.int 0 (P 282056282057)) (P 282050282058)) (.int 1 (P 282059282060)) (P 282050282061)) .nil)) (P 282033282062)) .nil)) (P 282024282063)) .nil)) (P 282008282064)) (P 282008282064)) .nil
noncomputable def d_close_case_2 : Sts := .cons (.expr (.call .add_part (P 284008284016) (.cons (.loc 0 (P 284017284022)) (.cons (.tup (.cons (.str [99, 97, 115, 101] (P 284025284031)) (.cons (.loc 1 (P 284033284037)) (.cons (.loc 2 (P 284039284044)) .nil))) (P 284024284045)) .nil)) (P 284008284046)) (P 284008284046)) .nil
noncomputable def d_close_case_3 : Sts := .cons (.ifs (.cmp .Gt (.bcall .len (P 283009283012) (.loc 2 (P 283013283018)) (P 283009283019)) (.int 0 (P 283022283023)) (P 283009283023)) d_close_case_2 .nil (P 283004284046)) .nil
noncomputable def d_close_case_4 : Sts := .cons (.ifs (.boolop .And (.cmp .Eq (.bcall .len (P 281007281010) (.loc 2 (P 281011281016)) (P 281007281017)) (.int 1 (P 281021281022)) (P 281007281022)) (.cons (.cmp .Eq (.sub (.sub (.loc 2 (P 281027281032)) (.int 0 (P 281033281034)) (P 281027281035)) (.int 0 (P 281036281037)) (P 281027281038)) (.str [116, 101, 120, 116] (P 281042281048)) (P 281027281048)) .nil) (P 281007281048)) d_close_case_1 d_close_case_3 (P 281004284046)) .nil
noncomputable def d_close_case_5 : Sts := .cons (.unpack 1 2 (P 280004280008) (P 280010280015) (P 280004280015) (.meth (.loc 0 (P 280018280023)) .pop (P 280018280027) .nil (P 280018280029)) (P 280004280029)) d_close_case_4
noncomputable def d_end_case_1 : Sts := .cons (.expr (.meth (.loc 0 (P 287008287013)) .pop (P 287008287017) .nil (P 287008287019)) (P 287008287019)) .nil
noncomputable def d_end_case_2 : Sts := .cons (.expr (.call .close_case (P 289008289018) (.cons (.loc 0 (P 289019289024)) .nil) (P 289008289025)) (P 289008289025)) .nil
noncomputable def d_end_case_3 : Sts := .cons (.ifs (.cmp .Gt (.bcall .len (P 288007288010) (.loc 0 (P 288011288016)) (P 288007288017)) (.int 1 (P 288020288021)) (P 288007288021)) d_end_case_2 .nil (P 288004289025)) .nil
noncomputable def d_end_case_4 : Sts := .cons (.whil (.boolop .And (.cmp .Gt (.bcall .len (P 286010286013) (.loc 0 (P 286014286019)) (P 286010286020)) (.int 1 (P 286023286024)) (P 286010286024)) (.cons (.cmp .In (.sub (.sub (.loc 0 (P 286029286034)) (.bin .Sub (.bcall .len (P 286035286038) (.loc 0 (P 286039286044)) (P 286035286045)) (.int 1 (P 286048286049)) (P 286035286049)) (P 286029286050)) (.int 0 (P 286051286052)) (P 286029286053)) (.gl .SHORT_CASES (P 286057286068)) (P 286029286068)) .nil) (P 286010286068)) d_end_case_1 (P 286004287019)) d_end_case_3
noncomputable def d_begin_case_1 : Sts := .cons (.expr (.call .close_case (P 292008292018) (.cons (.loc 0 (P 292019292024)) .nil) (P 292008292025)) (P 292008292025)) .nil
noncomputable def d_begin_case_2 : Sts := .cons (.expr (.meth (.loc 0 (P 293004293009)) .append (P 293004293016) (.cons (.list true (.cons (.loc 1 (P 293018293022)) (.cons (.list true .nil (P 293024293026)) .nil)) (P 293017293027)) .nil) (P 293004293028)) (P 293004293028)) .nil
noncomputable def d_begin_case_3 : Sts := .cons (.ifs (.boolop .And (.cmp .In (.loc 1 (P 291007291011)) (.str [85, 76, 70] (P 291015291020)) (P 291007291020)) (.cons (.cmp .In (.sub (.sub (.loc 0 (P 291025291030)) (.bin .Sub (.bcall .len (P 291031291034) (.loc 0 (P 291035291040)) (P 291031291041)) (.int 1 (P 291044291045)) (P 291031291045)) (P 291025291046)) (.int 0 (P 291047291048)) (P 291025291049)) (.tup (.cons (.str [85] (P 291054291057)) (.cons (.str [76] (P 291059291062)) (.cons (.str [70] (P 291064291067)) .nil))) (P 291053291068)) (P 291025291068)) .nil) (P 291007291068)) d_begin_case_1 .nil (P 291004292025)) d_begin_case_2
noncomputable def d_take_case_1 : Sts := .cons (.expr (.call .close_case (P 299012299022) (.cons (.loc 0 (P 299023299028)) .nil) (P 299012299029)) (P 299012299029)) .nil
noncomputable def d_take_case_2 : Sts := .cons (.ret (.bin .Add (.loc 2 (P 302015302017)) (.int 4 (P 302020302021)) (P 302015302021)) (P 302008302021)) .nil
noncomputable def d_take_case_3 : Sts := .cons (.expr (.call .begin_case (P 301008301018) (.cons (.loc 0 (P 301019301024)) (.cons (.loc 3 (P 301026301030)) .nil)) (P 301008301031)) (P 301008301031)) d_take_case_2
noncomputable def d_take_case_4 : Sts := .cons (.expr (.call .begin_case (P 300008300018) (.cons (.loc 0 (P 300019300024)) (.cons (.sub (.loc 4 (P 300026300030)) (.int 3 (P 300031300032)) (P 300026300033)) .nil)) (P 300008300034)) (P 300008300034)) d_take_case_3
noncomputable def d_take_case_5 : Sts := .cons (.ifs (.cmp .In (.sub (.sub (.loc 0 (P 298011298016)) (.bin .Sub (.bcall .len (P 298017298020) (.loc 0 (P 298021298026)) (P 298017298027)) (.int 1 (P 298030298031)) (P 298017298031)) (P 298011298032)) (.int 0 (P 298033298034)) (P 298011298035)) (.tup (.cons (.str [85] (P 298040298043)) (.cons (.str [76] (P 298045298048)) (.cons (.str [70] (P 298050298053)) .nil))) (P 298039298054)) (P 298011298054)) d_take_case_1 .nil (P 298008299029)) d_take_case_4
noncomputable def d_take_case_6 : Sts := .cons (.expr (.call .end_case (P 304008304016) (.cons (.loc 0 (P 304017304022)) .nil) (P 304008304023)) (P 304008304023)) .nil
noncomputable def d_take_case_7 : Sts := .cons (.expr (.call .begin_case (P 306008306018) (.cons (.loc 0 (P 306019306024)) (.cons (.loc 3 (P 306026306030)) .nil)) (P 306008306031)) (P 306008306031)) .nil
noncomputable def d_take_case_8 : Sts := .cons (.ret (.bin .Add (.loc 2 (P 307011307013)) (.int 2 (P 307016307017)) (P 307011307017)) (P 307004307017)) .nil
noncomputable def d_take_case_9 : Sts := .cons (.ifs (.cmp .Eq (.loc 3 (P 303007303011)) (.str [69] (P 303015303018)) (P 303007303018)) d_take_case_6 d_take_case_7 (P 303004306031)) d_take_case_8
noncomputable def d_take_case_10 : Sts := .cons (.ifs (.boolop .Or (.cmp .Eq (.loc 4 (P 297007297011)) (.str [92, 76, 92, 117] (P 297015297023)) (P 297007297023)) (.cons (.cmp .Eq (.loc 4 (P 297027297031)) (.str [92, 85, 92, 108] (P 297035297043)) (P 297027297043)) .nil) (P 297007297043)) d_take_case_5 .nil (P 297004302021)) d_take_case_9
noncomputable def d_take_case_11 : Sts := .cons (.assign 4 (P 296004296008) (.sl (.loc 1 (P 296011296015)) (.loc 2 (P 296016296018)) (.bin .Add (.loc 2 (P 296019296021)) (.int 4 (P 296024296025)) (P 296019296025)) (P 296016296025) (P 296011296026)) (P 296004296026)) d_take_case_10
noncomputable def d_take_case_12 : Sts := .cons (.assign 3 (P 295004295008) (.sub (.loc 1 (P 295011295015)) (.bin .Add (.loc 2 (P 295016295018)) (.int 1 (P 295021295022)) (P 295016295022)) (P 295011295023)) (P 295004295023)) d_take_case_11
noncomputable def d_take_piece_1 : Sts := .cons (.ret (.bin .Add (.loc 2 (P 313019313021)) (.int 2 (P 313024313025)) (P 313019313025)) (P 313012313025)) .nil
noncomputable def d_take_piece_2 : Sts := .cons (.expr (.call .add_part (P 312012312020) (.cons (.loc 0 (P 312021312026)) (.cons (.tup (.cons (.str [116, 101, 120, 116] (P 312029312035)) (.cons (.sl (.loc 1 (P 312037312041)) (.loc 2 (P 312042312044)) (.bin .Add (.loc 2 (P 312045312047)) (.int 2 (P 312050312051)) (P 312045312051)) (P 312042312051) (P 312037312052)) .nil)) (P 312028312053)) .nil)) (P 312012312054)) (P 312012312054)) d_take_piece_1
noncomputable def d_take_piece_3 : Sts := .cons (.ret (.loc 6 (P 316015316021)) (P 316008316021)) .nil
noncomputable def d_take_piece_4 : Sts := .cons (.expr (.call .add_part (P 315008315016) (.cons (.loc 0 (P 315017315022)) (.cons (.tup (.cons (.str [116, 101, 120, 116] (P 315025315031)) (.cons (.loc 5 (P 315033315038)) .nil)) (P 315024315039)) .nil)) (P 315008315040)) (P 315008315040)) d_take_piece_3
noncomputable def d_take_piece_5 : Sts := .cons (.unpack 5 6 (P 314008314013) (P 314015314021) (P 314008314021) (.call .escape_at (P 314024314033) (.cons (.loc 1 (P 314034314038)) (.cons (.loc 2 (P 314040314042)) .nil)) (P 314024314043)) (P 314008314043)) d_take_piece_4
noncomputable def d_take_piece_6 : Sts := .cons (.ifs (.loc 3 (P 311011311021)) d_take_piece_2 .nil (P 311008313025)) d_take_piece_5
noncomputable def d_take_piece_7 : Sts := .cons (.assign 6 (P 319008319014) (.dead (S [115, 99, 97, 108, 97, 114, 95, 101, 110, 100]) (P 319017319027) (.cons (.loc 1 (P 319028319032)) (.cons (.loc 2 (P 319034319036)) (.cons (.loc 3 (P 319038319048)) .nil))) (P 319017319049)) (P 319008319049)) .nil
noncomputable def d_take_piece_8 : Sts := .cons (.assign 6 (P 321008321014) (.dead (S [97, 114, 114, 97, 121, 95, 101, 110, 100]) (P 321017321026) (.cons (.loc 1 (P 321027321031)) (.cons (.loc 2 (P 321033321035)) (.cons (.loc 3 (P 321037321047)) .nil))) (P 321017321048)) (P 321008321048)) .nil
noncomputable def d_take_piece_9 : Sts := .cons (.ifs (.cmp .Eq (.loc 4 (P 320009320013)) (.str [64] (P 320017320020)) (P 320009320020)) d_take_piece_8 .nil (P 320004321048)) .nil
noncomputable def d_take_piece_10 : Sts := .cons (.ret (.loc 6 (P 324015324021)) (P 324008324021)) .nil
noncomputable def d_take_piece_11 : Sts := .cons (.expr (.call .add_part (P 323008323016) (.cons (.loc 0 (P 323017323022)) (.cons (.tup (.cons (.str [101, 120, 112, 114] (P 323025323031)) (.cons (.sl (.loc 1 (P 323033323037)) (.loc 2 (P 323038323040)) (.loc 6 (P 323041323047)) (P 323038323047) (P 323033323048)) .nil)) (P 323024323049)) .nil)) (P 323008323050)) (P 323008323050)) d_take_piece_10
noncomputable def d_take_piece_12 : Sts := .cons (.ret (.bin .Add (.loc 2 (P 326011326013)) (.int 1 (P 326016326017)) (P 326011326017)) (P 326004326017)) .nil
noncomputable def d_take_piece_13 : Sts := .cons (.expr (.call .add_part (P 325004325012) (.cons (.loc 0 (P 325013325018)) (.cons (.tup (.cons (.str [116, 101, 120, 116] (P 325021325027)) (.cons (.loc 4 (P 325029325033)) .nil)) (P 325020325034)) .nil)) (P 325004325035)) (P 325004325035)) d_take_piece_12
noncomputable def d_take_piece_14 : Sts := .cons (.ifs (.cmp .Gt (.loc 6 (P 322007322013)) (.loc 2 (P 322016322018)) (P 322007322018)) d_take_piece_11 .nil (P 322004324021)) d_take_piece_13
noncomputable def d_take_piece_15 : Sts := .cons (.ifs (.cmp .Eq (.loc 4 (P 318007318011)) (.str [36] (P 318015318018)) (P 318007318018)) d_take_piece_7 d_take_piece_9 (P 318004321048)) d_take_piece_14
noncomputable def d_take_piece_16 : Sts := .cons (.assign 6 (P 317004317010) (.loc 2 (P 317013317015)) (P 317004317015)) d_take_piece_15
noncomputable def d_take_piece_17 : Sts := .cons (.ifs (.cmp .Eq (.loc 4 (P 310007310011)) (.str [92] (P 310015310019)) (P 310007310019)) d_take_piece_6 .nil (P 310004316021)) d_take_piece_16
noncomputable def d_take_piece_18 : Sts := .cons (.assign 4 (P 309004309008) (.sub (.loc 1 (P 309011309015)) (.loc 2 (P 309016309018)) (P 309011309019)) (P 309004309019)) d_take_piece_17
noncomputable def d_parts_of_1 : Sts := .cons (.assign 3 (P 333012333014) (.call .take_case (P 333017333026) (.cons (.loc 2 (P 333027333032)) (.cons (.loc 0 (P 333034333038)) (.cons (.loc 3 (P 333040333042)) .nil))) (P 333017333043)) (P 333012333043)) .nil
noncomputable def d_parts_of_2 : Sts := .cons (.assign 3 (P 335012335014) (.call .take_piece (P 335017335027) (.cons (.loc 2 (P 335028335033)) (.cons (.loc 0 (P 335035335039)) (.cons (.loc 3 (P 335041335043)) (.cons (.loc 1 (P 335045335055)) .nil)))) (P 335017335056)) (P 335012335056)) .nil
noncomputable def d_parts_of_3 : Sts := .cons (.ifs (.boolop .And (.cmp .Eq (.sub (.loc 0 (P 332011332015)) (.loc 3 (P 332016332018)) (P 332011332019)) (.str [92] (P 332023332027)) (P 332011332027)) (.cons (.cmp .NotEq (.loc 4 (P 332032332040)) (.str [] (P 332044332046)) (P 332032332046)) (.cons (.cmp .In (.loc 4 (P 332052332060)) (.str [85, 76, 70, 81, 117, 108, 69] (P 332064332073)) (P 332052332073)) .nil)) (P 332011332074)) d_parts_of_1 d_parts_of_2 (P 332008335056)) .nil
noncomputable def d_parts_of_4 : Sts := .cons (.assign 4 (P 331008331016) (.sl (.loc 0 (P 331019331023)) (.bin .Add (.loc 3 (P 331024331026)) (.int 1 (P 331029331030)) (P 331024331030)) (.bin .Add (.loc 3 (P 331031331033)) (.int 2 (P 331036331037)) (P 331031331037)) (P 331024331037) (P 331019331038)) (P 331008331038)) d_parts_of_3
noncomputable def d_parts_of_5 : Sts := .cons (.expr (.call .close_case (P 337008337018) (.cons (.loc 2 (P 337019337024)) .nil) (P 337008337025)) (P 337008337025)) .nil
noncomputable def d_parts_of_6 : Sts := .cons (.ret (.sub (.sub (.loc 2 (P 338011338016)) (.int 0 (P 338017338018)) (P 338011338019)) (.int 1 (P 338020338021)) (P 338011338022)) (P 338004338022)) .nil
noncomputable def d_parts_of_7 : Sts := .cons (.whil (.cmp .Gt (.bcall .len (P 336010336013) (.loc 2 (P 336014336019)) (P 336010336020)) (.int 1 (P 336023336024)) (P 336010336024)) d_parts_of_5 (P 336004337025)) d_parts_of_6
noncomputable def d_parts_of_8 : Sts := .cons (.whil (.cmp .Lt (.loc 3 (P 330010330012)) (.bcall .len (P 330015330018) (.loc 0 (P 330019330023)) (P 330015330024)) (P 330010330024)) d_parts_of_4 (P 330004335056)) d_parts_of_7
noncomputable def d_parts_of_9 : Sts := .cons (.assign 3 (P 329004329006) (.int 0 (P 329009329010)) (P 329004329010)) d_parts_of_8
noncomputable def d_parts_of_10 : Sts := .cons (.assign 2 (P 328004328009) (.list true (.cons (.list true (.cons (.str [] (P 328014328016)) (.cons (.list true .nil (P 328018328020)) .nil)) (P 328013328021)) .nil) (P 328012328022)) (P 328004328022)) d_parts_of_9
noncomputable def d_plain_qq_1 : Sts := .cons (.raise (.str [97, 32, 118, 97, 114, 105, 97, 98, 108, 101, 32, 119, 104, 101, 114, 101, 32, 110, 111, 110, 101, 32, 109, 97, 121, 32, 115, 116, 97, 110, 100] (P 343028343061)) (.int 0 (P 343063343064)) (P 343018343027) (P 343018343065) (P 343012343065)) .nil
noncomputable def d_plain_qq_2 : Sts := .cons (.aug 1 (P 344008344011) .Add (.sub (.loc 2 (P 344015344019)) (.int 1 (P 344020344021)) (P 344015344022)) (P 344008344022)) .nil
noncomputable def d_plain_qq_3 : Sts := .cons (.ifs (.cmp .NotEq (.sub (.loc 2 (P 342011342015)) (.int 0 (P 342016342017)) (P 342011342018)) (.str [116, 101, 120, 116] (P 342022342028)) (P 342011342028)) d_plain_qq_1 .nil (P 342008343065)) d_plain_qq_2
noncomputable def d_plain_qq_4 : Sts := .cons (.ret (.loc 1 (P 345011345014)) (P 345004345014)) .nil
noncomputable def d_plain_qq_5 : Sts := .cons (.fore 2 (P 341008341012) (.call .parts_of (P 341016341024) (.cons (.loc 0 (P 341025341029)) (.cons (.bool false (P 341031341036)) .nil)) (P 341016341037)) d_plain_qq_3 (P 341004344022)) d_plain_qq_4
noncomputable def d_plain_qq_6 : Sts := .cons (.assign 1 (P 340004340007) (.str [] (P 340010340012)) (P 340004340012)) d_plain_qq_5
noncomputable def d_ends_1 : Sts := .cons (.ret (.dict [(([40], (P 348012348015)), ([41], (P 348017348020))), (([123], (P 348022348025)), ([125], (P 348027348030))), (([60], (P 348032348035)), ([62], (P 348037348040))), (([91], (P 348042348045)), ([93], (P 348047348050))), (([39], (P 348052348055)), ([39], (P 348057348060))), (([47], (P 348062348065)), ([47], (P 348067348070))), (([124], (P 348072348075)), ([124], (P 348077348080))), (([33], (P 348082348085)), ([33], (P 348087348090)))] (P 348011348091)) (P 348004348091)) .nil
noncomputable def d_escapes_1 : Sts := .cons (.ret (.list false (.cons (.tup (.cons (.str [92, 110] (P 351013351018)) (.cons (.str [10] (P 351020351024)) .nil)) (P 351012351025)) (.cons (.tup (.cons (.str [92, 116] (P 351028351033)) (.cons (.str [9] (P 351035351039)) .nil)) (P 351027351040)) (.cons (.tup (.cons (.str [92, 92] (P 351043351049)) (.cons (.str [92] (P 351051351055)) .nil)) (P 351042351056)) (.cons (.tup (.cons (.str [92, 120, 52, 49] (P 351059351066)) (.cons (.str [65] (P 351068351071)) .nil)) (P 351058351072)) (.cons (.tup (.cons (.str [92, 120, 123, 50, 54, 51, 97, 125] (P 351075351086)) (.cons (.str [9786] (P 351088351093)) .nil)) (P 351074351094)) (.cons (.tup (.cons (.str [92, 49, 48, 49] (P 351097351104)) (.cons (.str [65] (P 351106351109)) .nil)) (P 351096351110)) (.cons (.tup (.cons (.str [92, 48] (P 351113351118)) (.cons (.str [0] (P 351120351126)) .nil)) (P 351112351127)) (.cons (.tup (.cons (.str [92, 120] (P 351130351135)) (.cons (.str [0] (P 351137351143)) .nil)) (P 351129351144)) (.cons (.tup (.cons (.str [92, 120, 123, 125] (P 351147351154)) (.cons (.str [0] (P 351156351162)) .nil)) (P 351146351163)) (.cons (.tup (.cons (.str [92, 111, 123, 54, 48, 125] (P 351166351175)) (.cons (.str [48] (P 351177351180)) .nil)) (P 351165351181)) (.cons (.tup (.cons (.str [92, 99, 65] (P 351184351190)) (.cons (.str [1] (P 351192351198)) .nil)) (P 351183351199)) (.cons (.tup (.cons (.str [92, 99, 97] (P 351202351208)) (.cons (.str [1] (P 351210351216)) .nil)) (P 351201351217)) (.cons (.tup (.cons (.str [92, 99, 91] (P 351220351226)) (.cons (.str [27] (P 351228351234)) .nil)) (P 351219351235)) (.cons (.tup (.cons (.str [92, 101] (P 351238351243)) (.cons (.str [27] (P 351245351251)) .nil)) (P 351237351252)) (.cons (.tup (.cons (.str [92, 113] (P 351255351260)) (.cons (.str [113] (P 351262351265)) .nil)) (P 351254351266)) (.cons (.tup (.cons (.str [92, 36] (P 351269351274)) (.cons (.str [36] (P 351276351279)) .nil)) (P 351268351280)) (.cons (.tup (.cons (.str [92, 64] (P 351283351288)) (.cons (.str [64] (P 351290351293)) .nil)) (P 351282351294)) (.cons (.tup (.cons (.str [92, 78, 123, 85, 43, 101, 57, 125] (P 351297351308)) (.cons (.str [233] (P 351310351314)) .nil)) (P 351296351315)) (.cons (.tup (.cons (.str [92, 120, 52] (P 351318351324)) (.cons (.str [4] (P 351326351332)) .nil)) (P 351317351333)) (.cons (.tup (.cons (.str [92, 55] (P 351336351341)) (.cons (.str [7] (P 351343351349)) .nil)) (P 351335351350)) (.cons (.tup (.cons (.str [92, 97] (P 351353351358)) (.cons (.str [7] (P 351360351366)) .nil)) (P 351352351367)) (.cons (.tup (.cons (.str [92, 114] (P 351370351375)) (.cons (.str [13] (P 351377351381)) .nil)) (P 351369351382)) (.cons (.tup (.cons (.str [92, 102] (P 351385351390)) (.cons (.str [12] (P 351392351398)) .nil)) (P 351384351399)) (.cons (.tup (.cons (.str [92, 98] (P 351402351407)) (.cons (.str [8] (P 351409351415)) .nil)) (P 351401351416)) (.cons (.tup (.cons (.str [92, 45] (P 351419351424)) (.cons (.str [45] (P 351426351429)) .nil)) (P 351418351430)) (.cons (.tup (.cons (.str [92, 51, 55, 55] (P 351433351440)) (.cons (.str [255] (P 351442351446)) .nil)) (P 351432351447)) .nil)))))))))))))))))))))))))) (P 351011351448)) (P 351004351448)) .nil
noncomputable def d_rows_1 : Sts := .cons (.ret (.list false (.cons (.str [97] (P 353012353015)) (.cons (.str [] (P 353017353019)) (.cons (.str [32, 32, 69, 78, 68] (P 353021353028)) (.cons (.str [69, 78, 68, 32] (P 353030353036)) (.cons (.str [32, 98] (P 353038353042)) (.cons (.str [9, 99] (P 353044353049)) (.cons (.str [69, 78, 68, 88] (P 353051353057)) (.cons (.str [32, 32, 32, 32, 100] (P 353059353066)) .nil)))))))) (P 353011353067)) (P 353004353067)) .nil
noncomputable def d_take_1 : Sts := .cons (.ret (.bin .Mod (.sub (.sub (.loc 0 (P 358015358019)) (.int 0 (P 358020358021)) (P 358015358022)) (.loc 2 (P 358023358025)) (P 358015358026)) (.loc 1 (P 358029358030)) (P 358015358030)) (P 358008358030)) .nil
noncomputable def d_take_2 : Sts := .cons (.ret (.bin .Mod (.bin .Add (.bin .Add (.bin .Mult (.loc 2 (P 359012359014)) (.loc 2 (P 359017359019)) (P 359012359019)) (.bin .Mult (.int 3 (P 359022359023)) (.loc 2 (P 359026359028)) (P 359022359028)) (P 359012359028)) (.int 1 (P 359031359032)) (P 359012359032)) (.loc 1 (P 359036359037)) (P 359011359037)) (P 359004359037)) .nil
noncomputable def d_take_3 : Sts := .cons (.ifs (.cmp .Lt (.loc 2 (P 357007357009)) (.bcall .len (P 357012357015) (.sub (.loc 0 (P 357016357020)) (.int 0 (P 357021357022)) (P 357016357023)) (P 357012357024)) (P 357007357024)) d_take_1 .nil (P 357004358030)) d_take_2
noncomputable def d_take_4 : Sts := .cons (.setsub (.loc 0 (P 356004356008)) (.int 1 (P 356009356010)) (P 356004356011) (.bin .Add (.loc 2 (P 356014356016)) (.int 1 (P 356019356020)) (P 356014356020)) (P 356004356020)) d_take_3
noncomputable def d_take_5 : Sts := .cons (.assign 2 (P 355004355006) (.sub (.loc 0 (P 355009355013)) (.int 1 (P 355014355015)) (P 355009355016)) (P 355004355016)) d_take_4
noncomputable def d_inner_1 : Sts := .cons (.aug 6 (P 371012371016) .Add (.bin .Add (.bin .Add (.loc 1 (P 371020371027)) (.sub (.loc 9 (P 371030371035)) (.int 2 (P 371036371037)) (P 371030371038)) (P 371020371038)) (.loc 3 (P 371041371048)) (P 371020371048)) (P 371012371048)) .nil
noncomputable def d_inner_2 : Sts := .cons (.aug 5 (P 370012370018) .Add (.bin .Add (.bin .Add (.loc 1 (P 370022370029)) (.sub (.loc 9 (P 370032370037)) (.int 1 (P 370038370039)) (P 370032370040)) (P 370022370040)) (.loc 3 (P 370043370050)) (P 370022370050)) (P 370012370050)) d_inner_1
noncomputable def d_inner_3 : Sts := .cons (.aug 4 (P 369012369015) .Add (.bin .Add (.bin .Add (.loc 1 (P 369019369026)) (.sub (.loc 9 (P 369029369034)) (.int 0 (P 369035369036)) (P 369029369037)) (P 369019369037)) (.loc 3 (P 369040369047)) (P 369019369047)) (P 369012369047)) d_inner_2
noncomputable def d_inner_4 : Sts := .cons (.assign 9 (P 368012368017) (.call .inner (P 368020368030) (.cons (.loc 0 (P 368031368035)) (.cons (.loc 1 (P 368037368044)) (.cons (.bin .Sub (.loc 2 (P 368046368050)) (.int 1 (P 368053368054)) (P 368046368054)) .nil))) (P 368020368055)) (P 368012368055)) d_inner_3
noncomputable def d_inner_5 : Sts := .cons (.aug 6 (P 376012376016) .Add (.loc 10 (P 376020376024)) (P 376012376024)) .nil
noncomputable def d_inner_6 : Sts := .cons (.aug 5 (P 375012375018) .Add (.loc 10 (P 375022375026)) (P 375012375026)) d_inner_5
noncomputable def d_inner_7 : Sts := .cons (.aug 4 (P 374012374015) .Add (.bin .Add (.str [92] (P 374019374023)) (.loc 10 (P 374026374030)) (P 374019374030)) (P 374012374030)) d_inner_6
noncomputable def d_inner_8 : Sts := .cons (.assign 10 (P 373012373016) (.sub (.list false (.cons (.loc 1 (P 373020373027)) (.cons (.loc 3 (P 373029373036)) .nil)) (P 373019373037)) (.call .take (P 373038373047) (.cons (.loc 0 (P 373048373052)) (.cons (.int 2 (P 373054373055)) .nil)) (P 373038373056)) (P 373019373057)) (P 373012373057)) d_inner_7
noncomputable def d_inner_9 : Sts := .cons (.aug 6 (P 381012381016) .Add (.bin .Add (.str [92] (P 381020381024)) (.loc 10 (P 381027381031)) (P 381020381031)) (P 381012381031)) .nil
noncomputable def d_inner_10 : Sts := .cons (.aug 5 (P 380012380018) .Add (.ife (.cmp .Eq (.loc 10 (P 380030380034)) (.str [92] (P 380038380042)) (P 380030380042)) (.str [92] (P 380022380026)) (.bin .Add (.str [92] (P 380048380052)) (.loc 10 (P 380055380059)) (P 380048380059)) (P 380022380059)) (P 380012380059)) d_inner_9
noncomputable def d_inner_11 : Sts := .cons (.aug 4 (P 379012379015) .Add (.bin .Add (.str [92] (P 379019379023)) (.loc 10 (P 379026379030)) (P 379019379030)) (P 379012379030)) d_inner_10
noncomputable def d_inner_12 : Sts := .cons (.assign 10 (P 378012378016) (.sub (.list false (.cons (.str [92] (P 378020378024)) (.cons (.str [110] (P 378026378029)) (.cons (.str [36] (P 378031378034)) .nil))) (P 378019378035)) (.call .take (P 378036378045) (.cons (.loc 0 (P 378046378050)) (.cons (.int 3 (P 378052378053)) .nil)) (P 378036378054)) (P 378019378055)) (P 378012378055)) d_inner_11
noncomputable def d_inner_13 : Sts := .cons (.aug 6 (P 386012386016) .Add (.loc 10 (P 386020386024)) (P 386012386024)) .nil
noncomputable def d_inner_14 : Sts := .cons (.aug 5 (P 385012385018) .Add (.loc 10 (P 385022385026)) (P 385012385026)) d_inner_13
noncomputable def d_inner_15 : Sts := .cons (.aug 4 (P 384012384015) .Add (.loc 10 (P 384019384023)) (P 384012384023)) d_inner_14
noncomputable def d_inner_16 : Sts := .cons (.assign 10 (P 383012383016) (.sub (.gl .LAW_PLAIN (P 383019383029)) (.call .take (P 383030383039) (.cons (.loc 0 (P 383040383044)) (.cons (.int 8 (P 383046383047)) .nil)) (P 383030383048)) (P 383019383049)) (P 383012383049)) d_inner_15
noncomputable def d_inner_17 : Sts := .cons (.ifs (.cmp .Eq (.loc 8 (P 377013377016)) (.int 5 (P 377020377021)) (P 377013377021)) d_inner_12 d_inner_16 (P 377008386024)) .nil
noncomputable def d_inner_18 : Sts := .cons (.ifs (.cmp .Eq (.loc 8 (P 372013372016)) (.int 4 (P 372020372021)) (P 372013372021)) d_inner_8 d_inner_17 (P 372008386024)) .nil
noncomputable def d_inner_19 : Sts := .cons (.ifs (.boolop .And (.cmp .Eq (.loc 8 (P 367011367014)) (.int 3 (P 367018367019)) (P 367011367019)) (.cons (.cmp .Gt (.loc 2 (P 367024367028)) (.int 0 (P 367031367032)) (P 367024367032)) (.cons (.cmp .NotEq (.loc 3 (P 367038367045)) (.loc 1 (P 367049367056)) (P 367038367056)) .nil)) (P 367011367057)) d_inner_4 d_inner_18 (P 367008386024)) .nil
noncomputable def d_inner_20 : Sts := .cons (.assign 8 (P 366008366011) (.call .take (P 366014366023) (.cons (.loc 0 (P 366024366028)) (.cons (.int 6 (P 366030366031)) .nil)) (P 366014366032)) (P 366008366032)) d_inner_19
noncomputable def d_inner_21 : Sts := .cons (.ret (.tup (.cons (.loc 4 (P 387012387015)) (.cons (.loc 5 (P 387017387023)) (.cons (.loc 6 (P 387025387029)) .nil))) (P 387011387030)) (P 387004387030)) .nil
noncomputable def d_inner_22 : Sts := .cons (.fore 7 (P 365008365012) (.rng1 (P 365016365021) (.call .take (P 365022365031) (.cons (.loc 0 (P 365032365036)) (.cons (.int 5 (P 365038365039)) .nil)) (P 365022365040)) (P 365016365041)) d_inner_20 (P 365004386024)) d_inner_21
noncomputable def d_inner_23 : Sts := .cons (.assign 6 (P 364004364008) (.str [] (P 364011364013)) (P 364004364013)) d_inner_22
noncomputable def d_inner_24 : Sts := .cons (.assign 5 (P 363004363010) (.str [] (P 363013363015)) (P 363004363015)) d_inner_23
noncomputable def d_inner_25 : Sts := .cons (.assign 4 (P 362004362007) (.str [] (P 362010362012)) (P 362004362012)) d_inner_24
noncomputable def d_inner_26 : Sts := .cons (.assign 3 (P 361004361011) (.sub (.call .ends (P 361014361023) .nil (P 361014361025)) (.loc 1 (P 361026361033)) (P 361014361034)) (P 361004361034)) d_inner_25
noncomputable def d_refused_1 : Sts := .cons (.ret (.int 0 (P 393011393012)) (P 393004393012)) .nil
noncomputable def d_refused_2 : Sts := .cons (.tryRet (.cons (.expr (.call .delimited (P 390008390017) (.cons (.loc 0 (P 390018390022)) (.cons (.loc 1 (P 390024390026)) .nil)) (P 390008390027)) (P 390008390027)) .nil) (some 2) (P 391011391020) (.line (.loc 2 (P 392015392020)) (P 392015392025)) (P 392008392025) (P 391004392025) (P 389004392025)) d_refused_1
noncomputable def d_quotes_1 : Sts := .cons (.ret (.bool false (P 400015400020)) (P 400008400020)) .nil
noncomputable def d_quotes_2 : Sts := .cons (.ret (.bool false (P 402015402020)) (P 402008402020)) .nil
noncomputable def d_quotes_3 : Sts := .cons (.ret (.cmp .Eq (.call .refused (P 403011403023) (.cons (.bin .Add (.bin .Add (.loc 2 (P 403024403029)) (.loc 1 (P 403032403039)) (P 403024403039)) (.sub (.loc 3 (P 403042403047)) (.int 0 (P 403048403049)) (P 403042403050)) (P 403024403050)) (.cons (.bcall .len (P 403052403055) (.loc 2 (P 403056403061)) (P 403052403062)) .nil)) (P 403011403063)) (.bin .Add (.int 1 (P 403067403068)) (.meth (.loc 2 (P 403071403076)) .count (P 403071403082) (.cons (.str [10] (P 403083403087)) .nil) (P 403071403088)) (P 403067403088)) (P 403011403088)) (P 403004403088)) .nil
noncomputable def d_quotes_4 : Sts := .cons (.ifs (.boolop .Or (.cmp .NotEq (.call .read_q (P 401007401013) (.cons (.sub (.loc 3 (P 401014401019)) (.int 0 (P 401020401021)) (P 401014401022)) (.cons (.loc 1 (P 401024401031)) .nil)) (P 401007401032)) (.sub (.loc 3 (P 401036401041)) (.int 1 (P 401042401043)) (P 401036401044)) (P 401007401044)) (.cons (.cmp .NotEq (.call .unguarded (P 401048401057) (.cons (.sub (.loc 3 (P 401058401063)) (.int 0 (P 401064401065)) (P 401058401066)) (.cons (.loc 1 (P 401068401075)) (.cons (.bool false (P 401077401082)) .nil))) (P 401048401083)) (.sub (.loc 3 (P 401087401092)) (.int 2 (P 401093401094)) (P 401087401095)) (P 401048401095)) .nil) (P 401007401095)) d_quotes_2 .nil (P 401004402020)) d_quotes_3
noncomputable def d_quotes_5 : Sts := .cons (.ifs (.cmp .NotEq (.call .delimited (P 399007399016) (.cons (.loc 4 (P 399017399021)) (.cons (.bcall .len (P 399023399026) (.loc 2 (P 399027399032)) (P 399023399033)) .nil)) (P 399007399034)) (.tup (.cons (.sub (.loc 3 (P 399039399044)) (.int 0 (P 399045399046)) (P 399039399047)) (.cons (.bin .Sub (.bcall .len (P 399049399052) (.loc 4 (P 399053399057)) (P 399049399058)) (.int 5 (P 399061399062)) (P 399049399062)) .nil)) (P 399038399063)) (P 399007399063)) d_quotes_1 .nil (P 399004400020)) d_quotes_4
noncomputable def d_quotes_6 : Sts := .cons (.assign 4 (P 398004398008) (.bin .Add (.bin .Add (.bin .Add (.bin .Add (.bin .Add (.loc 2 (P 398011398016)) (.loc 1 (P 398019398026)) (P 398011398026)) (.sub (.loc 3 (P 398029398034)) (.int 0 (P 398035398036)) (P 398029398037)) (P 398011398037)) (.sub (.call .ends (P 398040398049) .nil (P 398040398051)) (.loc 1 (P 398052398059)) (P 398040398060)) (P 398011398060)) (.str [116, 97, 105, 108] (P 398063398069)) (P 398011398069)) (.sub (.call .ends (P 398072398081) .nil (P 398072398083)) (.loc 1 (P 398084398091)) (P 398072398092)) (P 398011398092)) (P 398004398092)) d_quotes_5
noncomputable def d_quotes_7 : Sts := .cons (.assign 3 (P 397004397009) (.call .inner (P 397012397022) (.cons (.loc 0 (P 397023397027)) (.cons (.loc 1 (P 397029397036)) (.cons (.int 3 (P 397038397039)) .nil))) (P 397012397040)) (P 397004397040)) d_quotes_6
noncomputable def d_quotes_8 : Sts := .cons (.assign 2 (P 396004396009) (.sub (.list false (.cons (.str [] (P 396013396015)) (.cons (.str [120, 10] (P 396017396022)) (.cons (.str [10, 10, 40] (P 396024396031)) .nil))) (P 396012396032)) (.call .take (P 396033396042) (.cons (.loc 0 (P 396043396047)) (.cons (.int 3 (P 396049396050)) .nil)) (P 396033396051)) (P 396012396052)) (P 396004396052)) d_quotes_7
noncomputable def d_quotes_9 : Sts := .cons (.assign 1 (P 395004395011) (.sub (.str [40, 123, 60, 91, 39, 47, 124, 33] (P 395014395024)) (.call .take (P 395025395034) (.cons (.loc 0 (P 395035395039)) (.cons (.int 8 (P 395041395042)) .nil)) (P 395025395043)) (P 395014395044)) (P 395004395044)) d_quotes_8
noncomputable def d_words_1 : Sts := .cons (.aug 1 (P 409008409012) .Add (.bin .Add (.sub (.loc 2 (P 409016409021)) (.neg 1 (P 409023409024) (P 409022409024)) (P 409016409025)) (.sub (.list false (.cons (.str [32] (P 409029409032)) (.cons (.str [10] (P 409034409038)) (.cons (.str [32, 9, 32] (P 409040409046)) (.cons (.str [13, 10] (P 409048409054)) .nil)))) (P 409028409055)) (.call .take (P 409056409065) (.cons (.loc 0 (P 409066409070)) (.cons (.int 4 (P 409072409073)) .nil)) (P 409056409074)) (P 409028409075)) (P 409016409075)) (P 409008409075)) .nil
noncomputable def d_words_2 : Sts := .cons (.expr (.meth (.loc 2 (P 408008408013)) .append (P 408008408020) (.cons (.sub (.list false (.cons (.str [97] (P 408022408025)) (.cons (.str [66, 58, 58, 99] (P 408027408033)) (.cons (.str [36, 120] (P 408035408039)) (.cons (.str [49, 44, 50] (P 408041408046)) (.cons (.str [35] (P 408048408051)) .nil))))) (P 408021408052)) (.call .take (P 408053408062) (.cons (.loc 0 (P 408063408067)) (.cons (.int 5 (P 408069408070)) .nil)) (P 408053408071)) (P 408021408072)) .nil) (P 408008408073)) (P 408008408073)) d_words_1
noncomputable def d_words_3 : Sts := .cons (.ret (.boolop .And (.cmp .Eq (.call .read_qw (P 410011410018) (.cons (.loc 1 (P 410019410023)) .nil) (P 410011410024)) (.loc 2 (P 410028410033)) (P 410011410033)) (.cons (.cmp .Eq (.call .read_qw (P 410038410045) (.cons (.bin .Add (.loc 1 (P 410046410050)) (.str [122, 92, 92, 121] (P 410053410061)) (P 410046410061)) .nil) (P 410038410062)) (.bin .Add (.loc 2 (P 410066410071)) (.list false (.cons (.str [122, 92, 121] (P 410075410081)) .nil) (P 410074410082)) (P 410066410082)) (P 410038410082)) .nil) (P 410011410082)) (P 410004410082)) .nil
noncomputable def d_words_4 : Sts := .cons (.fore 3 (P 407008407012) (.rng1 (P 407016407021) (.call .take (P 407022407031) (.cons (.loc 0 (P 407032407036)) (.cons (.int 5 (P 407038407039)) .nil)) (P 407022407040)) (P 407016407041)) d_words_2 (P 407004409075)) d_words_3
noncomputable def d_words_5 : Sts := .cons (.assign 2 (P 406004406009) (.list true .nil (P 406012406014)) (P 406004406014)) d_words_4
noncomputable def d_words_6 : Sts := .cons (.assign 1 (P 405004405008) (.bin .Mult (.str [32] (P 405011405014)) (.call .take (P 405017405026) (.cons (.loc 0 (P 405027405031)) (.cons (.int 2 (P 405033405034)) .nil)) (P 405017405035)) (P 405011405035)) (P 405004405035)) d_words_5
noncomputable def d_cased_1 : Sts := .cons (.aug 2 (P 418012418015) .Add (.bcall .chr (P 418019418022) (.bin .Sub (.bcall .ord (P 418023418026) (.loc 4 (P 418027418031)) (P 418023418032)) (.int 32 (P 418035418037)) (P 418023418037)) (P 418019418038)) (P 418012418038)) .nil
noncomputable def d_cased_2 : Sts := .cons (.aug 2 (P 420012420015) .Add (.bcall .chr (P 420019420022) (.bin .Add (.bcall .ord (P 420023420026) (.loc 4 (P 420027420031)) (P 420023420032)) (.int 32 (P 420035420037)) (P 420023420037)) (P 420019420038)) (P 420012420038)) .nil
noncomputable def d_cased_3 : Sts := .cons (.aug 2 (P 422012422015) .Add (.bin .Add (.str [92] (P 422019422023)) (.loc 4 (P 422026422030)) (P 422019422030)) (P 422012422030)) .nil
noncomputable def d_cased_4 : Sts := .cons (.aug 2 (P 424012424015) .Add (.loc 4 (P 424019424023)) (P 424012424023)) .nil
noncomputable def d_cased_5 : Sts := .cons (.ifs (.boolop .And (.cmp .Eq (.loc 0 (P 421013421017)) (.str [81] (P 421021421024)) (P 421013421024)) (.cons (.not (.boolop .Or (.loc 5 (P 421035421043)) (.cons (.loc 6 (P 421047421055)) (.cons (.cmp2 .LtE .LtE (.str [48] (P 421059421062)) (.loc 4 (P 421066421070)) (.str [57] (P 421074421077)) (P 421059421077)) (.cons (.cmp .Eq (.loc 4 (P 421082421086)) (.str [95] (P 421090421093)) (P 421082421093)) .nil))) (P 421035421094)) (P 421030421095)) (.cons (.cmp .Lt (.bcall .ord (P 421102421105) (.loc 4 (P 421106421110)) (P 421102421111)) (.int 128 (P 421114421117)) (P 421102421117)) .nil)) (P 421013421118)) d_cased_3 d_cased_4 (P 421008424023)) .nil
noncomputable def d_cased_6 : Sts := .cons (.ifs (.boolop .Or (.boolop .And (.boolop .Or (.cmp .Eq (.loc 0 (P 419014419018)) (.str [76] (P 419022419025)) (P 419014419025)) (.cons (.cmp .Eq (.loc 0 (P 419029419033)) (.str [70] (P 419037419040)) (P 419029419040)) .nil) (P 419014419040)) (.cons (.loc 6 (P 419046419054)) .nil) (P 419013419054)) (.cons (.boolop .And (.cmp .Eq (.loc 0 (P 419059419063)) (.str [108] (P 419067419070)) (P 419059419070)) (.cons (.loc 6 (P 419075419083)) (.cons (.cmp .Eq (.loc 3 (P 419089419094)) (.int 0 (P 419098419099)) (P 419089419099)) .nil)) (P 419059419100)) .nil) (P 419013419101)) d_cased_2 d_cased_5 (P 419008424023)) .nil
noncomputable def d_cased_7 : Sts := .cons (.ifs (.boolop .Or (.boolop .And (.cmp .Eq (.loc 0 (P 417011417015)) (.str [85] (P 417019417022)) (P 417011417022)) (.cons (.loc 5 (P 417027417035)) .nil) (P 417011417035)) (.cons (.boolop .And (.cmp .Eq (.loc 0 (P 417040417044)) (.str [117] (P 417048417051)) (P 417040417051)) (.cons (.loc 5 (P 417056417064)) (.cons (.cmp .Eq (.loc 3 (P 417070417075)) (.int 0 (P 417079417080)) (P 417070417080)) .nil)) (P 417040417081)) .nil) (P 417011417082)) d_cased_1 d_cased_6 (P 417008424023)) .nil
noncomputable def d_cased_8 : Sts := .cons (.assign 6 (P 416008416016) (.cmp2 .LtE .LtE (.str [65] (P 416019416022)) (.loc 4 (P 416026416030)) (.str [90] (P 416034416037)) (P 416019416037)) (P 416008416037)) d_cased_7
noncomputable def d_cased_9 : Sts := .cons (.assign 5 (P 415008415016) (.cmp2 .LtE .LtE (.str [97] (P 415019415022)) (.loc 4 (P 415026415030)) (.str [122] (P 415034415037)) (P 415019415037)) (P 415008415037)) d_cased_8
noncomputable def d_cased_10 : Sts := .cons (.assign 4 (P 414008414012) (.sub (.loc 1 (P 414015414019)) (.loc 3 (P 414020414025)) (P 414015414026)) (P 414008414026)) d_cased_9
noncomputable def d_cased_11 : Sts := .cons (.ret (.loc 2 (P 425011425014)) (P 425004425014)) .nil
noncomputable def d_cased_12 : Sts := .cons (.fore 3 (P 413008413013) (.rng1 (P 413017413022) (.bcall .len (P 413023413026) (.loc 1 (P 413027413031)) (P 413023413032)) (P 413017413033)) d_cased_10 (P 413004424023)) d_cased_11
noncomputable def d_cased_13 : Sts := .cons (.assign 2 (P 412004412007) (.str [] (P 412010412012)) (P 412004412012)) d_cased_12
noncomputable def d_escaped_1 : Sts := .cons (.ret (.bool false (P 432019432024)) (P 432012432024)) .nil
noncomputable def d_escaped_2 : Sts := .cons (.aug 2 (P 438012438016) .Add (.call .cased (P 438020438030) (.cons (.loc 6 (P 438031438035)) (.cons (.loc 8 (P 438037438041)) .nil)) (P 438020438042)) (P 438012438042)) .nil
noncomputable def d_escaped_3 : Sts := .cons (.aug 1 (P 437012437016) .Add (.bin .Add (.bin .Add (.bin .Add (.str [92] (P 437020437024)) (.loc 6 (P 437027437031)) (P 437020437031)) (.loc 7 (P 437034437039)) (P 437020437039)) (.str [92, 69] (P 437042437047)) (P 437020437047)) (P 437012437047)) d_escaped_2
noncomputable def d_escaped_4 : Sts := .cons (.aug 2 (P 441012441016) .Add (.loc 8 (P 441020441024)) (P 441012441024)) .nil
noncomputable def d_escaped_5 : Sts := .cons (.aug 1 (P 440012440016) .Add (.loc 7 (P 440020440025)) (P 440012440025)) d_escaped_4
noncomputable def d_escaped_6 : Sts := .cons (.ifs (.cmp .NotEq (.loc 6 (P 436011436015)) (.str [] (P 436019436021)) (P 436011436021)) d_escaped_3 d_escaped_5 (P 436008441024)) .nil
noncomputable def d_escaped_7 : Sts := .cons (.assign 8 (P 435008435012) (.bin .Add (.loc 5 (P 435015435019)) (.str [43, 90, 121, 37, 120] (P 435022435029)) (P 435015435029)) (P 435008435029)) d_escaped_6
noncomputable def d_escaped_8 : Sts := .cons (.assign 7 (P 434008434013) (.bin .Add (.loc 4 (P 434016434019)) (.str [43, 90, 121, 37, 120] (P 434022434029)) (P 434016434029)) (P 434008434029)) d_escaped_7
noncomputable def d_escaped_9 : Sts := .cons (.assign 6 (P 433008433012) (.sub (.list false (.cons (.str [] (P 433016433018)) (.cons (.str [85] (P 433020433023)) (.cons (.str [76] (P 433025433028)) (.cons (.str [81] (P 433030433033)) (.cons (.str [117] (P 433035433038)) (.cons (.str [108] (P 433040433043)) (.cons (.str [70] (P 433045433048)) (.cons (.str [] (P 433050433052)) .nil)))))))) (P 433015433053)) (.call .take (P 433054433063) (.cons (.loc 0 (P 433064433068)) (.cons (.int 8 (P 433070433071)) .nil)) (P 433054433072)) (P 433015433073)) (P 433008433073)) d_escaped_8
noncomputable def d_escaped_10 : Sts := .cons (.ifs (.cmp .NotEq (.call .escape_at (P 431011431020) (.cons (.bin .Add (.bin .Add (.str [97, 98] (P 431021431025)) (.loc 4 (P 431028431031)) (P 431021431031)) (.str [43] (P 431034431037)) (P 431021431037)) (.cons (.int 2 (P 431039431040)) .nil)) (P 431011431041)) (.tup (.cons (.loc 5 (P 431046431050)) (.cons (.bin .Add (.int 2 (P 431052431053)) (.bcall .len (P 431056431059) (.loc 4 (P 431060431063)) (P 431056431064)) (P 431052431064)) .nil)) (P 431045431065)) (P 431011431065)) d_escaped_1 .nil (P 431008432024)) d_escaped_9
noncomputable def d_escaped_11 : Sts := .cons (.unpack 4 5 (P 430008430011) (P 430013430017) (P 430008430017) (.sub (.call .escapes (P 430020430032) .nil (P 430020430034)) (.call .take (P 430035430044) (.cons (.loc 0 (P 430045430049)) (.cons (.int 26 (P 430051430053)) .nil)) (P 430035430054)) (P 430020430055)) (P 430008430055)) d_escaped_10
noncomputable def d_escaped_12 : Sts := .cons (.ret (.boolop .And (.cmp .Eq (.call .plain_qq (P 442011442019) (.cons (.loc 1 (P 442020442024)) .nil) (P 442011442025)) (.loc 2 (P 442029442033)) (P 442011442033)) (.cons (.cmp .Eq (.call .escape_at (P 442038442047) (.cons (.str [92] (P 442048442052)) (.cons (.int 0 (P 442054442055)) .nil)) (P 442038442056)) (.tup (.cons (.str [92] (P 442061442065)) (.cons (.int 1 (P 442067442068)) .nil)) (P 442060442069)) (P 442038442069)) .nil) (P 442011442069)) (P 442004442069)) .nil
noncomputable def d_escaped_13 : Sts := .cons (.fore 3 (P 429008429012) (.rng1 (P 429016429021) (.bin .Add (.int 1 (P 429022429023)) (.call .take (P 429026429035) (.cons (.loc 0 (P 429036429040)) (.cons (.int 5 (P 429042429043)) .nil)) (P 429026429044)) (P 429022429044)) (P 429016429045)) d_escaped_11 (P 429004441024)) d_escaped_12
noncomputable def d_escaped_14 : Sts := .cons (.assign 2 (P 428004428008) (.str [] (P 428011428013)) (P 428004428013)) d_escaped_13
noncomputable def d_escaped_15 : Sts := .cons (.assign 1 (P 427004427008) (.str [] (P 427011427013)) (P 427004427013)) d_escaped_14
noncomputable def d_here_1 : Sts := .cons (.assign 6 (P 451012451015) (.bin .Add (.loc 6 (P 451018451021)) (.str [46] (P 451024451027)) (P 451018451027)) (P 451012451027)) .nil
noncomputable def d_here_2 : Sts := .cons (.aug 3 (P 454012454016) .Add (.bin .Add (.loc 6 (P 454020454023)) (.str [10] (P 454026454030)) (P 454020454030)) (P 454012454030)) .nil
noncomputable def d_here_3 : Sts := .cons (.expr (.meth (.loc 2 (P 453012453016)) .append (P 453012453023) (.cons (.bin .Add (.loc 1 (P 453024453030)) (.loc 6 (P 453033453036)) (P 453024453036)) .nil) (P 453012453037)) (P 453012453037)) d_here_2
noncomputable def d_here_4 : Sts := .cons (.assign 6 (P 458016458019) (.slFrom (.loc 6 (P 458022458025)) (.bcall .len (P 458026458029) (.loc 1 (P 458030458036)) (P 458026458037)) (P 458026458038) (P 458022458039)) (P 458016458039)) .nil
noncomputable def d_here_5 : Sts := .cons (.assign 4 (P 460016460021) (.bcall .len (P 460024460027) (.loc 2 (P 460028460032)) (P 460024460033)) (P 460016460033)) .nil
noncomputable def d_here_6 : Sts := .cons (.ifs (.boolop .And (.cmp .NotEq (.loc 6 (P 459017459020)) (.str [] (P 459024459026)) (P 459017459026)) (.cons (.cmp .Lt (.loc 4 (P 459031459036)) (.int 0 (P 459039459040)) (P 459031459040)) .nil) (P 459017459040)) d_here_5 .nil (P 459012460033)) .nil
noncomputable def d_here_7 : Sts := .cons (.aug 3 (P 461012461016) .Add (.bin .Add (.loc 6 (P 461020461023)) (.str [10] (P 461026461030)) (P 461020461030)) (P 461012461030)) .nil
noncomputable def d_here_8 : Sts := .cons (.ifs (.cmp .Eq (.slTo (.loc 6 (P 457015457018)) (.bcall .len (P 457020457023) (.loc 1 (P 457024457030)) (P 457020457031)) (P 457019457031) (P 457015457032)) (.loc 1 (P 457036457042)) (P 457015457042)) d_here_4 d_here_6 (P 457012460033)) d_here_7
noncomputable def d_here_9 : Sts := .cons (.expr (.meth (.loc 2 (P 456012456016)) .append (P 456012456023) (.cons (.loc 6 (P 456024456027)) .nil) (P 456012456028)) (P 456012456028)) d_here_8
noncomputable def d_here_10 : Sts := .cons (.ifs (.cmp .Gt (.call .take (P 452011452020) (.cons (.loc 0 (P 452021452025)) (.cons (.int 4 (P 452027452028)) .nil)) (P 452011452029)) (.int 0 (P 452032452033)) (P 452011452033)) d_here_3 d_here_9 (P 452008461030)) .nil
noncomputable def d_here_11 : Sts := .cons (.ifs (.cmp .Eq (.meth (.loc 6 (P 450011450014)) .strip (P 450011450020) (.cons (.str [32, 9] (P 450021450026)) .nil) (P 450011450027)) (.str [69, 78, 68] (P 450031450036)) (P 450011450036)) d_here_1 .nil (P 450008451027)) d_here_10
noncomputable def d_here_12 : Sts := .cons (.assign 6 (P 449008449011) (.sub (.call .rows (P 449014449023) .nil (P 449014449025)) (.call .take (P 449026449035) (.cons (.loc 0 (P 449036449040)) (.cons (.int 8 (P 449042449043)) .nil)) (P 449026449044)) (P 449014449045)) (P 449008449045)) d_here_11
noncomputable def d_here_13 : Sts := .cons (.ret (.bool false (P 468015468020)) (P 468008468020)) .nil
noncomputable def d_here_14 : Sts := .cons (.ret (.bool false (P 473011473016)) (P 473004473016)) .nil
noncomputable def d_here_15 : Sts := .cons (.tryRet (.cons (.expr (.call .here_body (P 470008470017) (.cons (.slTo (.loc 7 (P 470018470023)) (.bin .Add (.bcall .len (P 470025470028) (.loc 2 (P 470029470033)) (P 470025470034)) (.int 1 (P 470037470038)) (P 470025470038)) (P 470024470038) (P 470018470039)) (.cons (.int 1 (P 470041470042)) (.cons (.str [69, 78, 68] (P 470044470049)) (.cons (.bool true (P 470051470055)) .nil)))) (P 470008470056)) (P 470008470056)) .nil) none (P 471011471020) (.bool true (P 472015472019)) (P 472008472019) (P 471004472019) (P 469004472019)) d_here_14
noncomputable def d_here_16 : Sts := .cons (.ifs (.boolop .Or (.cmp .GtE (.loc 4 (P 467007467012)) (.int 0 (P 467016467017)) (P 467007467017)) (.cons (.cmp .NotEq (.loc 8 (P 467021467026)) (.tup (.cons (.loc 3 (P 467031467035)) (.cons (.bin .Add (.bcall .len (P 467037467040) (.loc 2 (P 467041467045)) (P 467037467046)) (.int 2 (P 467049467050)) (P 467037467050)) .nil)) (P 467030467051)) (P 467021467051)) .nil) (P 467007467051)) d_here_13 .nil (P 467004468020)) d_here_15
noncomputable def d_here_17 : Sts := .cons (.tryRet (.cons (.assign 8 (P 464008464013) (.call .here_body (P 464016464025) (.cons (.loc 7 (P 464026464031)) (.cons (.int 1 (P 464033464034)) (.cons (.str [69, 78, 68] (P 464036464041)) (.cons (.cmp .NotEq (.loc 1 (P 464043464049)) (.str [] (P 464053464055)) (P 464043464055)) .nil)))) (P 464016464056)) (P 464008464056)) .nil) (some 9) (P 465011465020) (.boolop .And (.cmp .GtE (.loc 4 (P 466015466020)) (.int 0 (P 466024466025)) (P 466015466025)) (.cons (.cmp .Eq (.line (.loc 9 (P 466030466035)) (P 466030466040)) (.bin .Add (.loc 4 (P 466044466049)) (.int 1 (P 466052466053)) (P 466044466053)) (P 466030466053)) .nil) (P 466015466053)) (P 466008466053) (P 465004466053) (P 463004466053)) d_here_16
noncomputable def d_here_18 : Sts := .cons (.assign 7 (P 462004462009) (.bin .Add (.bin .Add (.list false (.cons (.str [102, 105, 114, 115, 116] (P 462013462020)) .nil) (P 462012462021)) (.loc 2 (P 462024462028)) (P 462012462028)) (.list false (.cons (.bin .Add (.loc 1 (P 462032462038)) (.str [69, 78, 68] (P 462041462046)) (P 462032462046)) (.cons (.str [98, 101, 104, 105, 110, 100] (P 462048462056)) .nil)) (P 462031462057)) (P 462012462057)) (P 462004462057)) d_here_17
noncomputable def d_here_19 : Sts := .cons (.fore 5 (P 448008448012) (.rng1 (P 448016448021) (.call .take (P 448022448031) (.cons (.loc 0 (P 448032448036)) (.cons (.int 6 (P 448038448039)) .nil)) (P 448022448040)) (P 448016448041)) d_here_12 (P 448004461030)) d_here_18
noncomputable def d_here_20 : Sts := .cons (.assign 4 (P 447004447009) (.neg 1 (P 447013447014) (P 447012447014)) (P 447004447014)) d_here_19
noncomputable def d_here_21 : Sts := .cons (.assign 3 (P 446004446008) (.str [] (P 446011446013)) (P 446004446013)) d_here_20
noncomputable def d_here_22 : Sts := .cons (.assign 2 (P 445004445008) (.list true .nil (P 445011445013)) (P 445004445013)) d_here_21
noncomputable def d_here_23 : Sts := .cons (.assign 1 (P 444004444010) (.sub (.list false (.cons (.str [] (P 444014444016)) (.cons (.str [32] (P 444018444021)) (.cons (.str [9, 32] (P 444023444028)) (.cons (.str [32, 32] (P 444030444034)) .nil)))) (P 444013444035)) (.call .take (P 444036444045) (.cons (.loc 0 (P 444046444050)) (.cons (.int 4 (P 444052444053)) .nil)) (P 444036444054)) (P 444013444055)) (P 444004444055)) d_here_22
noncomputable def d_law_1 : Sts := .cons (.ret (.boolop .And (.call .quotes (P 476011476022) (.cons (.loc 1 (P 476023476027)) .nil) (P 476011476028)) (.cons (.call .words (P 476033476043) (.cons (.loc 1 (P 476044476048)) .nil) (P 476033476049)) (.cons (.call .escaped (P 476054476066) (.cons (.loc 1 (P 476067476071)) .nil) (P 476054476072)) (.cons (.call .here (P 476077476086) (.cons (.loc 1 (P 476087476091)) .nil) (P 476077476092)) .nil))) (P 476011476092)) (P 476004476092)) .nil
noncomputable def d_law_2 : Sts := .cons (.assign 1 (P 475004475008) (.list true (.cons (.slTo (.loc 0 (P 475012475018)) (.int 60 (P 475020475022)) (P 475019475022) (P 475012475023)) (.cons (.int 0 (P 475025475026)) .nil)) (P 475011475027)) (P 475004475027)) d_law_1
noncomputable def names : Fn → List (List Nat)
  | .closer_of => [[111, 112, 101, 110, 105, 110, 103]]
  | .line_of_place => [[116, 101, 120, 116], [97, 116]]
  | .delimited => [[116, 101, 120, 116], [97, 116], [111, 112, 101, 110, 105, 110, 103], [99, 108, 111, 115, 105, 110, 103], [100, 101, 112, 116, 104], [101, 110, 100], [115, 105, 103, 110]]
  | .unguarded => [[105, 110, 110, 101, 114], [111, 112, 101, 110, 105, 110, 103], [105, 115, 95, 112, 108, 97, 105, 110], [99, 108, 111, 115, 105, 110, 103], [111, 117, 116], [97, 116], [102, 111, 108, 108, 111, 119, 101, 114]]
  | .read_q => [[105, 110, 110, 101, 114], [111, 112, 101, 110, 105, 110, 103]]
  | .read_qw => [[105, 110, 110, 101, 114], [119, 111, 114, 100, 115], [119, 111, 114, 100], [115, 105, 103, 110]]
  | .digits_value => [[116, 101, 120, 116], [97, 116], [109, 111, 115, 116], [98, 97, 115, 101], [118, 97, 108, 117, 101], [101, 110, 100], [100, 105, 103, 105, 116]]
  | .coded_sign => [[99, 111, 100, 101]]
  | .braced_code => [[116, 101, 120, 116], [97, 116], [98, 97, 115, 101], [101, 110, 100], [118, 97, 108, 117, 101], [98, 101, 104, 105, 110, 100]]
  | .escape_at => [[116, 101, 120, 116], [97, 116], [115, 105, 103, 110], [118, 97, 108, 117, 101], [101, 110, 100]]
  | .great_letter => [[115, 105, 103, 110]]
  | .small_letter => [[115, 105, 103, 110]]
  | .is_plain_word_sign => [[115, 105, 103, 110]]
  | .cased_text => [[109, 97, 114, 107], [116, 101, 120, 116], [111, 117, 116], [115, 105, 103, 110]]
  | .here_end => [[108, 105, 110, 101, 115], [97, 116], [119, 111, 114, 100], [105, 115, 95, 105, 110, 100, 101, 110, 116, 101, 100], [101, 110, 100], [114, 111, 119]]
  | .here_body => [[108, 105, 110, 101, 115], [97, 116], [119, 111, 114, 100], [105, 115, 95, 105, 110, 100, 101, 110, 116, 101, 100], [101, 110, 100], [109, 97, 114, 103, 105, 110], [116, 101, 120, 116], [112, 108, 97, 99, 101], [114, 111, 119]]
  | .add_part => [[115, 116, 97, 99, 107], [112, 97, 114, 116], [112, 97, 114, 116, 115]]
  | .close_case => [[115, 116, 97, 99, 107], [109, 97, 114, 107], [112, 97, 114, 116, 115]]
  | .end_case => [[115, 116, 97, 99, 107]]
  | .begin_case => [[115, 116, 97, 99, 107], [109, 97, 114, 107]]
  | .take_case => [[115, 116, 97, 99, 107], [116, 101, 120, 116], [97, 116], [109, 97, 114, 107], [112, 97, 105, 114]]
  | .take_piece => [[115, 116, 97, 99, 107], [116, 101, 120, 116], [97, 116], [105, 115, 95, 112, 97, 116, 116, 101, 114, 110], [115, 105, 103, 110], [112, 105, 101, 99, 101], [98, 101, 104, 105, 110, 100]]
  | .parts_of => [[116, 101, 120, 116], [105, 115, 95, 112, 97, 116, 116, 101, 114, 110], [115, 116, 97, 99, 107], [97, 116], [102, 111, 108, 108, 111, 119, 101, 114]]
  | .plain_qq => [[116, 101, 120, 116], [111, 117, 116], [112, 97, 114, 116]]
  | .ends => []
  | .escapes => []
  | .rows => []
  | .take => [[116, 97, 112, 101], [110], [97, 116]]
  | .inner => [[116, 97, 112, 101], [111, 112, 101, 110, 105, 110, 103], [100, 101, 101, 112], [99, 108, 111, 115, 105, 110, 103], [114, 97, 119], [113, 117, 111, 116, 101, 100], [107, 101, 112, 116], [116, 117, 114, 110], [119, 97, 121], [105, 110, 110, 101, 114], [115, 105, 103, 110]]
  | .refused => [[116, 101, 120, 116], [97, 116], [102, 97, 117, 108, 116]]
  | .quotes => [[116, 97, 112, 101], [111, 112, 101, 110, 105, 110, 103], [97, 104, 101, 97, 100], [105, 110, 110, 101, 114], [116, 101, 120, 116]]
  | .words => [[116, 97, 112, 101], [116, 101, 120, 116], [119, 111, 114, 100, 115], [116, 117, 114, 110]]
  | .cased => [[109, 97, 114, 107], [116, 101, 120, 116], [111, 117, 116], [112, 108, 97, 99, 101], [115, 105, 103, 110], [105, 115, 95, 115, 109, 97, 108, 108], [105, 115, 95, 103, 114, 101, 97, 116]]
  | .escaped => [[116, 97, 112, 101], [116, 101, 120, 116], [119, 97, 110, 116], [116, 117, 114, 110], [114, 97, 119], [115, 105, 103, 110], [109, 97, 114, 107], [112, 105, 101, 99, 101], [116, 111, 108, 100]]
  | .here => [[116, 97, 112, 101], [109, 97, 114, 103, 105, 110], [114, 111, 119, 115], [119, 97, 110, 116], [119, 114, 111, 110, 103], [116, 117, 114, 110], [114, 111, 119], [108, 105, 110, 101, 115], [102, 111, 117, 110, 100], [102, 97, 117, 108, 116]]
  | .law => [[115, 99, 114, 105, 112, 116], [116, 97, 112, 101]]
noncomputable def ar : Fn → Nat
  | .closer_of => 1
  | .line_of_place => 2
  | .delimited => 2
  | .unguarded => 3
  | .read_q => 2
  | .read_qw => 1
  | .digits_value => 4
  | .coded_sign => 1
  | .braced_code => 3
  | .escape_at => 2
  | .great_letter => 1
  | .small_letter => 1
  | .is_plain_word_sign => 1
  | .cased_text => 2
  | .here_end => 4
  | .here_body => 4
  | .add_part => 2
  | .close_case => 1
  | .end_case => 1
  | .begin_case => 2
  | .take_case => 3
  | .take_piece => 4
  | .parts_of => 2
  | .plain_qq => 1
  | .ends => 0
  | .escapes => 0
  | .rows => 0
  | .take => 2
  | .inner => 3
  | .refused => 2
  | .quotes => 1
  | .words => 1
  | .cased => 2
  | .escaped => 1
  | .here => 1
  | .law => 1
noncomputable def body : Fn → Sts
  | .closer_of => d_closer_of_1
  | .line_of_place => d_line_of_place_1
  | .delimited => d_delimited_17
  | .unguarded => d_unguarded_14
  | .read_q => d_read_q_1
  | .read_qw => d_read_qw_11
  | .digits_value => d_digits_value_9
  | .coded_sign => d_coded_sign_3
  | .braced_code => d_braced_code_5
  | .escape_at => d_escape_at_20
  | .great_letter => d_great_letter_3
  | .small_letter => d_small_letter_3
  | .is_plain_word_sign => d_is_plain_word_sign_1
  | .cased_text => d_cased_text_14
  | .here_end => d_here_end_7
  | .here_body => d_here_body_11
  | .add_part => d_add_part_6
  | .close_case => d_close_case_5
  | .end_case => d_end_case_4
  | .begin_case => d_begin_case_3
  | .take_case => d_take_case_12
  | .take_piece => d_take_piece_18
  | .parts_of => d_parts_of_10
  | .plain_qq => d_plain_qq_6
  | .ends => d_ends_1
  | .escapes => d_escapes_1
  | .rows => d_rows_1
  | .take => d_take_5
  | .inner => d_inner_26
  | .refused => d_refused_2
  | .quotes => d_quotes_9
  | .words => d_words_6
  | .cased => d_cased_13
  | .escaped => d_escaped_15
  | .here => d_here_23
  | .law => d_law_2
end Mine
end
section
open PySem PySem.W PySem.Calls PyProof.Rows
set_option Elab.async false
set_option maxRecDepth 100000
set_option maxHeartbeats 4000000
set_option linter.all false
namespace Mine
noncomputable def Nm (f : Fn) (i : Nat) : Str := S ((names f).getD i [])
noncomputable def argsOf (f : Fn) : Arguments := match T.main.body[f.idx]? with
  | some (.FunctionDef _ args _ _ _ _ _ _ _ _) => args
  | _ => default
noncomputable def scopeOf (f : Fn) : Scope := match T.main.body[f.idx]? with
  | some (.FunctionDef _ _ _ _ _ _ scope _ _ _) => scope
  | _ => default
theorem fd_eq (f : Fn) : fdAt f.idx f.addr f.pm = docDef f.name (argsOf f) ((body f).emb (Nm f)) (scopeOf f) f.pm (.ref (f.addr - 1)) .none := by cases f <;> kernel_rfl
noncomputable abbrev envAt (f : Fn) (L : Addr) : Env := envOf f.name (scopeOf f) L f.addr (.ref (f.addr - 1))
noncomputable def chk (f : Fn) (L : Addr) : Bool :=
  (body f).wf (envAt f L).kindOf (names f).length && (List.range (names f).length).all (fun i => (match (envAt f L).kindOf (Nm f i) with | some .local => true | _ => false) && !(Nm f i == ("__debug__" : Str))) &&
  (scopeOf f).names.all (fun x => match x.2 with | .cell => false | _ => true) && ((names f).take (ar f)).all (fun x => match (scopeOf f).names.lookup (S x) with | some .local => true | _ => false) &&
  !(scopeOf f).isCoroutine && !(scopeOf f).isGenerator && (match (scopeOf f).kind with | .function => true | _ => false) && decide (ar f ≤ (names f).length)
theorem chk_ok (f : Fn) (L : Addr) : chk f L = true := by cases f <;> kernel_rfl
theorem l0 {xs : List Value} (h : xs.length = 0) : xs = [] := List.length_eq_zero_iff.mp h
theorem l1 {xs : List Value} (h : xs.length = 1) : ∃ a, xs = [a] := List.length_eq_one_iff.mp h
theorem l2 {xs : List Value} (h : xs.length = 2) : ∃ a b, xs = [a, b] := by
  rcases xs with _ | ⟨a, _ | ⟨b, _ | ⟨c, l⟩⟩⟩ <;> first | exact ⟨a, b, rfl⟩ | cases h
theorem l3 {xs : List Value} (h : xs.length = 3) : ∃ a b c, xs = [a, b, c] := by
  rcases xs with _ | ⟨a, l⟩
  · cases h
  · obtain ⟨b, c, rfl⟩ := l2 (Nat.succ.inj h); exact ⟨a, b, c, rfl⟩
theorem l4 {xs : List Value} (h : xs.length = 4) : ∃ a b c d, xs = [a, b, c, d] := by
  rcases xs with _ | ⟨a, l⟩
  · cases h
  · obtain ⟨b, c, d, rfl⟩ := l3 (Nat.succ.inj h); exact ⟨a, b, c, d, rfl⟩
theorem bind_ok (f : Fn) (xs : List Value) (h : xs.length = ar f) : bindArgs (docDef f.name (argsOf f) ((body f).emb (Nm f)) (scopeOf f) f.pm (.ref (f.addr - 1)) .none) ⟨xs, []⟩ = pure ((((names f).take (ar f)).map S).zip xs) := by
  cases f <;> first
    | (obtain rfl := l0 h; kernel_rfl)
    | (obtain ⟨a, rfl⟩ := l1 h; kernel_rfl)
    | (obtain ⟨a, b, rfl⟩ := l2 h; kernel_rfl)
    | (obtain ⟨a, b, c, rfl⟩ := l3 h; kernel_rfl)
    | (obtain ⟨a, b, c, d, rfl⟩ := l4 h; kernel_rfl)
theorem names_nodup (f : Fn) : (names f).Nodup := by cases f <;> decide
end Mine
end
section
open PySem PySem.W PySem.Calls PyProof.Rows
set_option Elab.async false
set_option maxRecDepth 4000
set_option linter.all false
namespace Mine
/-- what is given back: the frame is let go, and lists too, if one likes; a list may be frozen -/
noncomputable def Back (O : MH) (L : Addr) (K : V → MH → Prop) (v : V) (O' : MH) : Prop :=
  ∃ O'', Sub O'' O' ∧ O'' L = none ∧ (∀ b, O b ≠ none → O'' b = O' b) ∧ (K v O'' ∨ ∃ a l, v = .lst a ∧ O' a = some (.list l) ∧ O'' a = none ∧ K (.fl l) O'')
noncomputable def Gone (O : MH) (L : Addr) (E : Int → MH → Prop) (i : Int) (O' : MH) : Prop :=
  ∃ O'', Sub O'' O' ∧ O'' L = none ∧ (∀ b, O b ≠ none → O'' b = O' b) ∧ E i O''
noncomputable def start (f : Fn) (vs : List V) : List V := vs ++ List.replicate ((names f).length - ar f) .undef
noncomputable def leave (O : MH) (L : Addr) (K : V → MH → Prop) : Fl → List V → MH → Prop := fun fl _ O' => match fl with
  | .ret v => Back O L K v O'
  | .next => Back O L K .none O'
  | _ => False
/-- what the call of a def gives, by its body -/
noncomputable def viaBody (C : CallP) : CallP := fun f vs O K E => vs.length = ar f ∧ ∀ L, O L = none → wsb C (body f) (start f vs) (upd O L .frame) (leave O L K) (Gone O L E)

section
variable {n : Nat} {C : CallP} {c : Cx} {A : Around}
theorem Inv.back {c : Cx} {env : Env} {O O' O'' : MH} {s s' : Shared} {L : Addr} (i₀ : Inv c O s) (nx : Next ⟨c.w, c.B, env :: c.fr, c.os⟩ s O s' O') (hs : Sub O'' O') (hk : ∀ b, O b ≠ none → O'' b = O' b) : Next c s O s' O'' := by
  have i := nx.inv
  have own : ∀ e ∈ c.fr, ∀ L, e.frame = some L → O'' L = some .frame := fun e he L hL => by
    rw [hk L (by rw [i₀.owned e he L hL]; simp)]
    exact i.owned e (.tail _ he) L hL
  refine ⟨⟨i.base, i.stay, fun b o e => hs.non (i.apart b o e), fun a l e => ?_, i.frames.2.2, own, fun a e => ?_, i.gens, i.os⟩, nx.kept, fun b o e => ?_⟩
  · rcases hs a with q | q
    · rw [q] at e; cases e
    · rw [q] at e
      obtain ⟨xs, a, b, r⟩ := i.lists a l e
      exact ⟨xs, a, b, r.sub hs⟩
  · rcases hs a with q | q
    · rw [q] at e; cases e
    · rw [q] at e; exact i.framed a e
  · cases q : O b with
    | none => rw [hs.non ((nx.grow.non e).mpr q)]
    | some x => rw [hk b (by rw [q]; simp), nx.grow b o e, q]
theorem back_val {env : Env} {O O' : MH} {s s' : Shared} {L : Addr} {K : V → MH → Prop} {v : V} {y : Value} (i₀ : Inv c O s) (nx : Next ⟨c.w, c.B, env :: c.fr, c.os⟩ s O s' O') (r : Rep c.w s'.heap O' v y) (h : Back O L K v O') : Val c s O K y s' := by
  obtain ⟨O'', hs, hL, hk, h⟩ := h
  have nb := Inv.back (L := L) i₀ nx hs hk
  rcases h with h | ⟨a, l, rfl, ha, hn, h⟩
  · exact ⟨v, O'', nb, r.sub hs, h⟩
  · obtain rfl : y = .ref a := r
    obtain ⟨xs, hp, hz, hr⟩ := nx.inv.lists a l ha
    exact ⟨.fl l, O'', nb, ⟨a, xs, rfl, hp.isList, hn, hz, hr.sub hs⟩, h⟩
theorem lookup_zip {ns : List (List Nat)} {xs : List Value} (nd : ns.Nodup) (hl : xs.length = ns.length) : ∀ i, i < ns.length → (((ns.map S).zip xs).reverse.lookup (S (ns.getD i []))) = xs[i]? := by
  have hS : ∀ a b : List Nat, S a = S b → a = b := fun a b e => beq_iff_eq.mp (str_inj a b ▸ beq_iff_eq.mpr e)
  have nd' : (ns.map S).Nodup := by
    unfold List.Nodup at nd ⊢
    rw [List.pairwise_map]
    exact nd.imp fun h e => h (hS _ _ e)
  intro i hi
  have hx : i < xs.length := by omega
  rw [List.getElem?_eq_getElem hx, List.getD_eq_getElem?_getD, List.getElem?_eq_getElem hi]
  have mem : (S ns[i], xs[i]) ∈ ((ns.map S).zip xs).reverse := by
    rw [List.mem_reverse]
    refine List.mem_of_getElem? (i := i) ?_
    rw [List.getElem?_zip_eq_some]
    exact ⟨by simp [hi], by simp [hx]⟩
  have uniq : ∀ p ∈ ((ns.map S).zip xs).reverse, p.1 = S ns[i] → p.2 = xs[i] := fun p hp e => by
    rw [List.mem_reverse] at hp
    obtain ⟨j, hj⟩ := List.getElem?_of_mem hp
    rw [List.getElem?_zip_eq_some] at hj
    obtain ⟨h1, h2⟩ := hj
    obtain ⟨hj1, e1⟩ := List.getElem?_eq_some_iff.mp h1
    obtain ⟨hj2, e2⟩ := List.getElem?_eq_some_iff.mp h2
    have e3 : (ns.map S)[j] = (ns.map S)[i]'(by simpa using hi) := by rw [e1, e]; simp
    have : j = i := (List.getElem_inj nd').mp e3
    subst this
    exact e2.symm
  generalize ((ns.map S).zip xs).reverse = l at mem uniq
  show List.lookup (S ns[i]) l = some xs[i]
  induction l with
  | nil => cases mem
  | cons p l ih =>
    rw [List.lookup_cons]
    by_cases q : S ns[i] = p.1
    · rw [beq_iff_eq.mpr q]
      exact congrArg some (uniq p (.head _) q.symm)
    · rw [beq_eq_false_iff_ne.mpr q]
      refine ih ?_ fun p hp => uniq p (.tail _ hp)
      rcases List.mem_cons.mp mem with e | e
      · exact absurd (congrArg Prod.fst e) q
      · exact e
theorem lookup_out {ns : List (List Nat)} {xs : List Value} {x : Str} (h : x ∉ ns.map S) : ((ns.map S).zip xs).reverse.lookup x = none := by
  rw [List.lookup_eq_none_iff]
  intro p hp
  rw [List.mem_reverse] at hp
  have := (List.of_mem_zip hp).1
  have hne : x ≠ p.1 := by rintro rfl; exact h this
  simpa using hne
theorem call_ok (f : Fn) {vs : List V} {O : MH} {K : V → MH → Prop} {E : Int → MH → Prop} (hC : CallsOk n c.w C) (hh : A.handled = none) (ok : AOk (n + 1) c A) (h : viaBody C f vs O K E) {s : Shared} {xs : List Value} (i : Inv c O s) (r : Reps c.w s.heap O vs xs) :
    wpAny (model pg c.w) A (PySem.call (.ref f.addr) xs) (Val c s O K) (Fly c .out s O E) s := by
  obtain ⟨har, h⟩ := h
  have hlen := r.length
  have ck := chk_ok f s.heap.objs.size
  simp only [chk, Bool.and_eq_true, List.all_eq_true, decide_eq_true_eq, Bool.not_eq_true', List.mem_range] at ck
  obtain ⟨⟨⟨⟨⟨⟨⟨hwf, hloc⟩, hcell⟩, hpar⟩, hco⟩, hgen⟩, hkind⟩, hle⟩ := ck
  have hkd : (scopeOf f).kind = .function := by
    revert hkind
    cases (scopeOf f).kind <;> intro hkind <;> first | rfl | cases hkind
  have hD : ((fnAt f.idx f.addr f.pm).data) = .func (docDef f.name (argsOf f) ((body f).emb (Nm f)) (scopeOf f) f.pm (.ref (f.addr - 1)) .none) := by
    show Data.func (fdAt f.idx f.addr f.pm) = _
    rw [fd_eq]
  have hroom := ok.depth
  refine wpAny_call (call_plain (by omega) (fn_at i f) hD (i.base.lim.keeps i.stay) (((i.base.code _ (fn_code f))).keeps i.stay) (bind_ok f xs (by rw [← hlen, har])) (fun x hx => ?_) (fun h₁ F => ?_) hco hgen hkd (fun x hx e => ?_))
  · have hm := (List.of_mem_zip hx).1
    obtain ⟨nm, hn, e⟩ := List.mem_map.mp hm
    have := hpar nm hn
    rw [e] at this
    revert this
    cases (scopeOf f).names.lookup x.1 with
    | none => intro z; cases z
    | some kd => cases kd <;> intro z <;> first | rfl | cases z
  · have hL₀ : s.heap.get? s.heap.objs.size = none := size_none _
    have hO : O s.heap.objs.size = none := i.fresh hL₀
    have env_loc : ∀ j, j < (names f).length → (envAt f s.heap.objs.size).kindOf (Nm f j) = some .local ∧ (Nm f j == ("__debug__" : Str)) = false := fun j hj => by
      obtain ⟨h1, h2⟩ := hloc j hj
      refine ⟨?_, h2⟩
      revert h1
      cases (envAt f s.heap.objs.size).kindOf (Nm f j) with
      | none => intro z; cases z
      | some kd => cases kd <;> intro z <;> first | rfl | cases z
    have hinj : ∀ a b, a < (names f).length → b < (names f).length → Nm f a = Nm f b → a = b := fun a b ha hb e => by
      have e' : (names f).getD a [] = (names f).getD b [] := beq_iff_eq.mp (str_inj _ _ ▸ beq_iff_eq.mpr e)
      rw [List.getD_eq_getElem?_getD, List.getD_eq_getElem?_getD, List.getElem?_eq_getElem ha, List.getElem?_eq_getElem hb] at e'
      exact (List.getElem_inj (names_nodup f)).mp e'
    let c' : Cx := ⟨c.w, c.B, envAt f s.heap.objs.size :: c.fr, c.os⟩
    have act : Act n c' (A.deeper (envAt f s.heap.objs.size)) (envAt f s.heap.objs.size) (Nm f) s.heap.objs.size (names f).length :=
      ⟨⟨Around.frames_deeper ok.frames, by have := ok.units; show A.units + 3 + _ + _ < _; omega, by have := ok.depth; show A.depth + 1 + _ + _ < _; omega⟩, ⟨_, _, _, _, rfl, hkd⟩, ⟨c.fr, rfl⟩, env_loc, hinj⟩
    generalize hs₁ : (Shared.mk h₁ s.gens s.drawn (s.toks + ((((names f).take (ar f)).map S).zip xs).length) s.os : Shared) = s₁
    have e₁ : s₁.heap = h₁ := by subst hs₁; rfl
    have pr : Pure s s₁ := by subst hs₁; exact ⟨F.keep, rfl, rfl⟩
    have ip := (i.pure pr)
    have hfr : ∃ o, s₁.heap.get? s.heap.objs.size = some o ∧ ∀ vs, o.data ≠ .fields vs := by
      obtain ⟨o, es, ep, e1, e2, _⟩ := F.ns
      exact ⟨o, by rw [e₁]; exact e1, fun vs z => by rw [e2] at z; cases z⟩
    have g : Grow s.heap O (upd O s.heap.objs.size .frame) := .upd_fresh O _ hL₀
    have iv : Inv c' (upd O s.heap.objs.size .frame) s₁ := by
      refine ⟨ip.inv.base, ip.inv.stay, fun b o e => ?_, fun a l e => ?_, ⟨?_, ?_, ip.inv.frames⟩, fun e he L' hL' => ?_, fun a e => ?_, ip.inv.gens, ip.inv.os⟩
      · rw [upd_ne]; exact i.apart b o e
        rintro rfl; rw [i.stay _ o e] at hL₀; cases hL₀
      · have ha : a ≠ s.heap.objs.size := by rintro rfl; rw [upd_self] at e; cases e
        rw [upd_ne _ ha] at e
        obtain ⟨ys, hp, z1, z2⟩ := i.lists a l e
        exact ⟨ys, hp.keeps pr.keep, z1, z2.mono (.of_keeps pr.keep) g⟩
      · show (scopeOf f).kind ≠ .module
        rw [hkd]; decide
      · obtain ⟨o, e1, e2⟩ := hfr
        exact ⟨_, o, rfl, (by cases q : c.B.get? s.heap.objs.size with
          | none => rfl
          | some p => rw [i.stay _ p q] at hL₀; cases hL₀), e1, e2⟩
      · rcases List.mem_cons.mp he with rfl | he
        · cases hL'; exact upd_self ..
        · rw [upd_ne]; exact i.owned e he L' hL'
          rintro rfl; rw [i.owned e he _ hL'] at hO; cases hO
      · by_cases ha : a = s.heap.objs.size
        · subst ha; exact hfr
        · rw [upd_ne _ ha] at e
          exact ip.inv.framed a e
    have nx : Next c' s O s₁ (upd O s.heap.objs.size .frame) := ⟨iv, .of_keeps pr.keep, g⟩
    have hst : c'.B.StaysIn s.heap := i.stay
    have gd : Good c' (Nm f) s.heap.objs.size (start f vs) (upd O s.heap.objs.size .frame) s₁ := by
      refine ⟨iv, upd_self .., _, by rw [e₁]; exact F.ns, fun j hj => ?_⟩
      have hj' : j < (names f).length := by
        unfold start at hj
        rw [List.length_append, List.length_replicate] at hj
        omega
      have hnd : ((names f).take (ar f)).Nodup := (names_nodup f).sublist (List.take_sublist _ _)
      have htl : ((names f).take (ar f)).length = ar f := by rw [List.length_take]; omega
      by_cases ha : j < ar f
      · have e : gv (start f vs) j = gv vs j := by
          unfold gv start
          rw [List.getD_eq_getElem?_getD, List.getD_eq_getElem?_getD, List.getElem?_append_left (by omega)]
        have hv : vs[j]? = some (gv vs j) := by
          unfold gv
          rw [List.getD_eq_getElem?_getD, List.getElem?_eq_getElem (by omega)]; rfl
        obtain ⟨y, hy, ry⟩ := r.get hv
        rw [e, if_pos ry.isDef]
        refine ⟨y, ?_, ry.mono (.of_keeps pr.keep) g⟩
        have en : Nm f j = S (((names f).take (ar f)).getD j []) := by
          unfold Nm
          rw [List.getD_eq_getElem?_getD, List.getD_eq_getElem?_getD, List.getElem?_take_of_lt ha]
        rw [en, lookup_zip hnd (by rw [htl, ← hlen, har]) j (by rw [htl]; exact ha)]
        exact hy
      · have e : gv (start f vs) j = .undef := by
          unfold gv start
          rw [List.getD_eq_getElem?_getD, List.getElem?_append_right (by omega), List.getElem?_replicate]
          split <;> rfl
        rw [e, if_neg (by decide)]
        refine lookup_out fun hm => ?_
        obtain ⟨nm, hn, e⟩ := List.mem_map.mp hm
        obtain ⟨m, hm⟩ := List.getElem?_of_mem hn
        have hml : m < ar f := by
          have := (List.getElem?_eq_some_iff.mp hm).1
          omega
        rw [List.getElem?_take_of_lt hml] at hm
        have : m = j := hinj m j (by omega) hj' (by
          rw [← e]
          unfold Nm
          rw [List.getD_eq_getElem?_getD, hm]; rfl)
        omega
    have hk : (start f vs).length = (names f).length := by
      unfold start
      rw [List.length_append, List.length_replicate]; omega
    have cl : CallsAt c' (A.deeper (envAt f s.heap.objs.size)) C := hC c' _ rfl hh act.ok
    refine wpAny_mono (wsb_ok cl hh act (body f) hwf s O (start f vs) _ s₁ _ _ hst hL₀ hk nx gd (h _ hO)) (fun fl s' ⟨O', n', h'⟩ => ?_) fun ex s' fl => ?_
    · cases fl with
      | next => obtain ⟨σ', g', _, h'⟩ := h'; exact back_val (v := .none) i n' rfl h'
      | cont => obtain ⟨σ', g', _, h'⟩ := h'; exact h'.elim
      | brk => obtain ⟨σ', g', _, h'⟩ := h'; exact h'.elim
      | ret y => obtain ⟨σ', v, r', h'⟩ := h'; exact back_val i n' r' h'
    · refine wpAny_mono (leaving_ok act hst fl) (fun _ s'' f' => ?_) fun _ _ x => x
      obtain ⟨e, line, O', rfl, n', hx, O'', hs, hL, hkk, hE⟩ := f'
      obtain ⟨h1, dx, oe, vs, m, t, h2, h3, h4, h5, h6, h7, h8, h9, h10, h11⟩ := hx
      exact ⟨e, line, O'', rfl, Inv.back (L := s.heap.objs.size) i n' hs hkk, ⟨h1, dx, oe, vs, m, t, hs.non h2, hs.non h3, h4, h5, h6, h7, h8, h9, h10, h11⟩, hE⟩
  · have := hcell x hx
    rw [e] at this
    cases this
/-- what all calls give, level by level -/
noncomputable def CC : Nat → CallP
  | 0 => noC
  | n + 1 => viaBody (CC n)
theorem cc_ok (w : World) : ∀ n, CallsOk n w (CC n)
  | 0 => fun _ _ _ _ _ => noC_ok
  | n + 1 => fun c A hw hh ok f vs O K E h s xs i r => by
    subst hw
    exact call_ok f (cc_ok c.w n) hh ok h i r
end
end Mine
end
section
open PySem PySem.W PySem.Calls PyProof.Rows
set_option Elab.async false
set_option maxRecDepth 8000
set_option maxHeartbeats 2000000
set_option linter.all false
namespace Mine
theorem tn0 (a : Nat) : (a : Int).toNat = a := rfl
theorem tn1 (a : Nat) : ((a : Int) + 1).toNat = a + 1 := rfl
theorem tn2 (a : Nat) : ((a : Int) + 2).toNat = a + 2 := rfl
theorem tnl0 : (0 : Int).toNat = 0 := rfl
theorem tnl1 : (1 : Int).toNat = 1 := rfl
theorem tnl2 : (2 : Int).toNat = 2 := rfl
theorem tnl3 : (3 : Int).toNat = 3 := rfl
theorem g0 (x0 : V) (l : List V) : gv (x0 :: l) 0 = x0 := rfl
theorem g1 (x0 x1 : V) (l : List V) : gv (x0 :: x1 :: l) 1 = x1 := rfl
theorem g2 (x0 x1 x2 : V) (l : List V) : gv (x0 :: x1 :: x2 :: l) 2 = x2 := rfl
theorem g3 (x0 x1 x2 x3 : V) (l : List V) : gv (x0 :: x1 :: x2 :: x3 :: l) 3 = x3 := rfl
theorem g4 (x0 x1 x2 x3 x4 : V) (l : List V) : gv (x0 :: x1 :: x2 :: x3 :: x4 :: l) 4 = x4 := rfl
theorem g5 (x0 x1 x2 x3 x4 x5 : V) (l : List V) : gv (x0 :: x1 :: x2 :: x3 :: x4 :: x5 :: l) 5 = x5 := rfl
theorem g6 (x0 x1 x2 x3 x4 x5 x6 : V) (l : List V) : gv (x0 :: x1 :: x2 :: x3 :: x4 :: x5 :: x6 :: l) 6 = x6 := rfl
theorem g7 (x0 x1 x2 x3 x4 x5 x6 x7 : V) (l : List V) : gv (x0 :: x1 :: x2 :: x3 :: x4 :: x5 :: x6 :: x7 :: l) 7 = x7 := rfl
theorem g8 (x0 x1 x2 x3 x4 x5 x6 x7 x8 : V) (l : List V) : gv (x0 :: x1 :: x2 :: x3 :: x4 :: x5 :: x6 :: x7 :: x8 :: l) 8 = x8 := rfl
theorem g9 (x0 x1 x2 x3 x4 x5 x6 x7 x8 x9 : V) (l : List V) : gv (x0 :: x1 :: x2 :: x3 :: x4 :: x5 :: x6 :: x7 :: x8 :: x9 :: l) 9 = x9 := rfl
theorem g10 (x0 x1 x2 x3 x4 x5 x6 x7 x8 x9 x10 : V) (l : List V) : gv (x0 :: x1 :: x2 :: x3 :: x4 :: x5 :: x6 :: x7 :: x8 :: x9 :: x10 :: l) 10 = x10 := rfl
theorem g11 (x0 x1 x2 x3 x4 x5 x6 x7 x8 x9 x10 x11 : V) (l : List V) : gv (x0 :: x1 :: x2 :: x3 :: x4 :: x5 :: x6 :: x7 :: x8 :: x9 :: x10 :: x11 :: l) 11 = x11 := rfl
theorem Sub.up {O : MH} {L : Addr} (h : O L = none) : Sub O (upd O L .frame) := fun a => by
  by_cases q : a = L
  · subst q; exact .inl h
  · exact .inr (upd_ne _ q).symm
theorem Back.pure {O : MH} {L : Addr} {K : V → MH → Prop} {v : V} (h : O L = none) (k : K v O) : Back O L K v (upd O L .frame) :=
  ⟨O, .up h, h, fun b hb => (upd_ne _ (by rintro rfl; exact hb h)).symm, .inl k⟩
theorem Gone.pure {O : MH} {L : Addr} {E : Int → MH → Prop} {i : Int} (h : O L = none) (k : E i O) : Gone O L E i (upd O L .frame) :=
  ⟨O, .up h, h, fun b hb => (upd_ne _ (by rintro rfl; exact hb h)).symm, k⟩
section
variable {C : CallP} {σ : List V} {O : MH} {K : Fl → List V → MH → Prop} {E : Int → MH → Prop} {r : Sts}
noncomputable def seqK (C : CallP) (r : Sts) (K : Fl → List V → MH → Prop) (E : Int → MH → Prop) : Fl → List V → MH → Prop := fun f σ O => match f with
  | .next => Hold (wsb C r σ O K E)
  | .brk => K .brk σ O
  | .cont => K .cont σ O
  | .ret v => K (.ret v) σ O
theorem seq_eq : (fun (f : Fl) σ₁ O₁ => match f with
      | .next => wsb C r σ₁ O₁ K E
      | .brk => K .brk σ₁ O₁
      | .cont => K .cont σ₁ O₁
      | .ret v => K (.ret v) σ₁ O₁) = seqK C r K E := by
  funext f σ O; cases f <;> simp only [seqK, hold_eq]
theorem wsb_cons {s : St} (h : ws C s σ O (seqK C r K E) E) : Hold (wsb C (.cons s r) σ O K E) := by
  refine ⟨?_⟩; rw [wsb]; exact Eq.mpr (congrArg (fun k => ws C s σ O k E) (seq_eq (C := C) (r := r) (K := K) (E := E))) h
theorem s_nil (h : K .next σ O) : Hold (wsb C .nil σ O K E) := by rw [hold_eq, wsb]; exact h
theorem s_join (h : Hold (wsb C r σ O K E)) : Hold (wsb C .nil σ O (seqK C r K E) E) := s_nil h
theorem s_assign {i : Nat} {q p : Pos} {e : X} (h : we C σ e O (fun v O₁ => Hold (wsb C r (σ.set i v) O₁ K E)) E) : Hold (wsb C (.cons (.assign i q e p) r) σ O K E) := wsb_cons (by rw [ws]; exact h)
theorem s_unpack {i j : Nat} {q q' t p : Pos} {e : X} (h : we C σ e O (fun v O₁ => match v with
      | .tup [a, b] => Hold (wsb C r ((σ.set i a).set j b) O₁ K E)
      | .lst ad => ∃ a b, O₁ ad = some (.list [a, b]) ∧ Hold (wsb C r ((σ.set i a).set j b) O₁ K E)
      | _ => False) E) : Hold (wsb C (.cons (.unpack i j q q' t e p) r) σ O K E) := wsb_cons (by rw [ws]; exact h)
theorem s_setsub {o i e : X} {t p : Pos} (h : we C σ e O (fun v O₁ => we C σ o O₁ (fun vo O₂ => we C σ i O₂ (fun vi O₃ => match vo with
      | .lst a => asI vi fun k => ∃ l, O₃ a = some (.list l) ∧ 0 ≤ k ∧ k < l.length ∧ Hold (wsb C r σ (upd O₃ a (.list (l.set k.toNat v))) K E)
      | _ => False) E) E) E) : Hold (wsb C (.cons (.setsub o i t e p) r) σ O K E) := wsb_cons (by rw [ws]; exact h)
theorem s_aug {i : Nat} {q p : Pos} {o : Operator} {e : X} (h : onDef (gv σ i) fun v₀ => we C σ e O (fun v O₁ => augP o v₀ v fun x => Hold (wsb C r (σ.set i x) O₁ K E)) E) : Hold (wsb C (.cons (.aug i q o e p) r) σ O K E) := wsb_cons (by rw [ws]; exact h)
theorem s_expr {e : X} {p : Pos} (h : we C σ e O (fun _ O₁ => Hold (wsb C r σ O₁ K E)) E) : Hold (wsb C (.cons (.expr e p) r) σ O K E) := wsb_cons (by rw [ws]; exact h)
theorem s_ret {e : X} {p : Pos} (h : we C σ e O (fun v O₁ => K (.ret v) σ O₁) E) : Hold (wsb C (.cons (.ret e p) r) σ O K E) := wsb_cons (by rw [ws]; exact h)
theorem s_ifs {t : X} {b o : Sts} {p : Pos} (h : we C σ t O (fun v O₁ => asB v fun c => if c = true then Hold (wsb C b σ O₁ (seqK C r K E) E) else Hold (wsb C o σ O₁ (seqK C r K E) E)) E) : Hold (wsb C (.cons (.ifs t b o p) r) σ O K E) :=
  wsb_cons (by rw [ws]; simp only [hold_eq] at h; exact h)
theorem s_while {t : X} {b : Sts} {p : Pos} (I : Nat → List V → MH → Prop) (m : Nat) (h₀ : I m σ O) (h : ∀ n σ O, I n σ O →
      we C σ t O (fun v O₁ => asB v fun c => if c = true then Hold (wsb C b σ O₁ (loopK (fun σ' O' => ∃ m, m < n ∧ I m σ' O') (seqK C r K E)) E) else Hold (wsb C r σ O₁ K E)) E) : Hold (wsb C (.cons (.whil t b p) r) σ O K E) :=
  wsb_cons (by rw [ws]; simp only [hold_eq] at h; refine ⟨I, ⟨m, h₀⟩, fun n σ O hI => ?_⟩; simp only [seqK, hold_eq]; exact h n σ O hI)
theorem s_for {i : Nat} {q p : Pos} {it : X} {b : Sts} (h : we C σ it O (fun v O₁ => ∃ items, itemsOf v = some items ∧ ∃ I : List V → List V → MH → Prop, I items σ O₁ ∧
      (∀ x l σ O, I (x :: l) σ O → Hold (wsb C b (σ.set i x) O (loopK (I l) (seqK C r K E)) E)) ∧ ∀ σ O, I [] σ O → Hold (wsb C r σ O K E)) E) : Hold (wsb C (.cons (.fore i q it b p) r) σ O K E) :=
  wsb_cons (by rw [ws]; simp only [hold_eq] at h; simp only [seqK, hold_eq]; exact h)
theorem s_brk {p : Pos} (h : K .brk σ O) : Hold (wsb C (.cons (.brk p) r) σ O K E) := wsb_cons (by rw [ws]; exact h)
theorem s_cont {p : Pos} (h : K .cont σ O) : Hold (wsb C (.cons (.cont p) r) σ O K E) := wsb_cons (by rw [ws]; exact h)
theorem s_raise {a b : X} {q c p : Pos} (h : we C σ a O (fun va O₁ => we C σ b O₁ (fun vb O₂ => match va with
      | .str _ => asI vb fun i => E i O₂
      | _ => False) E) E) : Hold (wsb C (.cons (.raise a b q c p) r) σ O K E) := wsb_cons (by rw [ws]; exact h)
theorem s_try {b : Sts} {nm : Option Nat} {q h' r' p : Pos} {e : X} (h : Hold (wsb C b σ O (seqK C r K E) (fun i O₁ => match nm with
      | none => we noC σ e O₁ (fun v O₂ => K (.ret v) σ O₂) (fun _ _ => False)
      | some n => ∀ σ', σ' = σ.set n (.die i) → we noC σ' e O₁ (fun v O₂ => isRef v = false ∧ K (.ret v) σ O₂) (fun _ _ => False)))) : Hold (wsb C (.cons (.tryRet b nm q e r' h' p) r) σ O K E) := wsb_cons (by rw [ws]; exact h.out)
end
theorem i_t {c : Bool} {A B : Prop} (h : c = true) (a : A) : if c = true then A else B := by rw [if_pos h]; exact a
theorem i_f {c : Bool} {A B : Prop} (h : c = false) (b : B) : if c = true then A else B := by rw [if_neg (by rw [h]; decide)]; exact b
theorem i_s {c : Bool} {A B : Prop} (a : c = true → A) (b : c = false → B) : if c = true then A else B := by
  cases q : c with
  | true => exact i_t rfl (a q)
  | false => exact i_f rfl (b q)
theorem szle {n : Nat} (h : n ≤ 1000000) : n ≤ SZ := Nat.le_trans h (by decide)
theorem cut1 (t : List Nat) (a : Nat) : cutL t (some (a : Int)) (some ((a : Int) + 1)) = (t[a]?).toList := by
  show (t.take (a + 1)).drop a = _
  rw [List.take_add_one]
  cases q : t[a]? with
  | none => 
    have : t.length ≤ a := by simpa using q
    simp [List.drop_eq_nil_of_le, this]
  | some x =>
    have : a < t.length := (List.getElem?_eq_some_iff.mp q).1
    rw [List.drop_append_of_le_length (by rw [List.length_take]; omega)]
    simp
theorem cut12 (t : List Nat) (a : Nat) : cutL t (some ((a : Int) + 1)) (some ((a : Int) + 2)) = (t[a + 1]?).toList := cut1 t (a + 1)
theorem cut02 {t : List Nat} {a x f : Nat} (h1 : t[a]? = some x) (h2 : t[a + 1]? = some f) : cutL t (some (a : Int)) (some ((a : Int) + 2)) = [x, f] := by
  show (t.take (a + 2)).drop a = _
  have : a + 1 < t.length := (List.getElem?_eq_some_iff.mp h2).1
  rw [show a + 2 = (a + 1) + 1 from rfl, List.take_add_one, List.take_add_one, h1, h2, List.append_assoc, List.drop_append_of_le_length (by rw [List.length_take]; omega)]
  simp

end Mine
end
section
open PySem PySem.W PySem.Calls PyProof.Rows
set_option Elab.async false
set_option maxRecDepth 8000
set_option maxHeartbeats 2000000
set_option linter.all false
namespace Mine
noncomputable def clo (o : List Nat) : List Nat := (look closersL o).getD o
section
variable {n : Nat} {O : MH} {K : V → MH → Prop} {E : Int → MH → Prop}
theorem closer_c {o : List Nat} (k : K (.str (clo o)) O) : Hold (CC (n + 1) .closer_of [.str o] O K E) := by
  refine ⟨⟨rfl, fun L hL => Hold.out ?_⟩⟩; dsimp only [start, names, ar, List.length_cons, List.length_nil, Nat.zero_add, Nat.reduceAdd, Nat.reduceSub, Nat.sub_self, List.replicate, List.append_nil, List.cons_append, List.nil_append]
  refine s_ret ?_; dsimp only [we, wes, wbo, Option.toList, g0, g1, g2, g3, g4, g5, g6, g7, g8, g9, g10, g11, List.set_cons_zero, List.set_cons_succ, onDef, mthQ, methP, asI, asB, slQ, nn, binP, cmpQ, cmpP, subP, bfP, augP, inStr, shorts, Gl.val, tn0, tn1, tn2, tnl0, tnl1, tnl2, tnl3]
  exact .pure hL k
theorem lineOf_c {t : List Nat} {p : Nat} (k : K (.int (1 + cnt (t.take p) [10])) O) : Hold (CC (n + 1) .line_of_place [.str t, .int p] O K E) := by
  refine ⟨⟨rfl, fun L hL => Hold.out ?_⟩⟩; dsimp only [start, names, ar, List.length_cons, List.length_nil, Nat.zero_add, Nat.reduceAdd, Nat.reduceSub, Nat.sub_self, List.replicate, List.append_nil, List.cons_append, List.nil_append]
  refine s_ret ?_; dsimp only [we, wes, wbo, Option.toList, g0, g1, g2, g3, g4, g5, g6, g7, g8, g9, g10, g11, List.set_cons_zero, List.set_cons_succ, onDef, mthQ, methP, asI, asB, slQ, nn, binP, cmpQ, cmpP, subP, bfP, augP, inStr, shorts, Gl.val, tn0, tn1, tn2, tnl0, tnl1, tnl2, tnl3]
  exact ⟨by omega, .pure hL k⟩
/-- the place of the closing sign behind an opening one -/
noncomputable def scan (c o : Nat) : Nat → List Nat → Option Nat
  | _, [] => none
  | d, [x] => if x = 92 then none else if x = c then (if d = 1 then some 0 else none) else none
  | d, x :: y :: r => if x = 92 then (scan c o d r).map (· + 2) else if x = c then (if d = 1 then some 0 else (scan c o (d - 1) (y :: r)).map (· + 1)) else if x = o then (scan c o (d + 1) (y :: r)).map (· + 1) else (scan c o d (y :: r)).map (· + 1)
theorem scan_back {c o d : Nat} {r : List Nat} : scan c o d (92 :: r) = (scan c o d (r.drop 1)).map (· + 2) := by
  cases r with
  | nil => simp [scan]
  | cons y r => simp [scan]
theorem scan_close {c o : Nat} {r : List Nat} (h : c ≠ 92) : scan c o 1 (c :: r) = some 0 := by
  cases r with
  | nil => simp [scan, h]
  | cons y r => simp [scan, h]
theorem scan_less {c o d : Nat} {r : List Nat} (h : c ≠ 92) (hd : d ≠ 1) : scan c o d (c :: r) = (scan c o (d - 1) r).map (· + 1) := by
  cases r with
  | nil => simp [scan, h, hd]
  | cons y r => simp [scan, h, hd]
theorem scan_more {c o d : Nat} {r : List Nat} (h : o ≠ 92) (hc : o ≠ c) : scan c o d (o :: r) = (scan c o (d + 1) r).map (· + 1) := by
  cases r with
  | nil => simp [scan, h, hc]
  | cons y r => simp [scan, h, hc]
theorem scan_on {c o d x : Nat} {r : List Nat} (h : x ≠ 92) (hc : x ≠ c) (ho : x ≠ o) : scan c o d (x :: r) = (scan c o d r).map (· + 1) := by
  cases r with
  | nil => simp [scan, h, hc]
  | cons y r => simp [scan, h, hc, ho]
theorem delimited_c {t : List Nat} {p o c : Nat} (hp : t[p]? = some o) (hc : clo [o] = [c]) (hc2 : c ≠ 92) (ho2 : o ≠ 92) (hz : t.length ≤ 100000)
    (h : match scan c o 1 (t.drop (p + 1)) with
      | some k => K (.tup [.str ((t.take (p + 1 + k)).drop (p + 1)), .int ((p + 1 + k : Nat) + 1 : Int)]) O
      | none => E (1 + cnt (t.take p) [10]) O) : Hold (CC (n + 2) .delimited [.str t, .int p] O K E) := by
  have hlt : p < t.length := (List.getElem?_eq_some_iff.mp hp).1
  have ho : cutL t (some (p : Int)) (some ((p : Int) + 1)) = [o] := by rw [cut1, hp]; rfl
  refine ⟨⟨rfl, fun L hL => Hold.out ?_⟩⟩; dsimp only [start, names, ar, List.length_cons, List.length_nil, Nat.zero_add, Nat.reduceAdd, Nat.reduceSub, Nat.sub_self, List.replicate, List.append_nil, List.cons_append, List.nil_append]
  refine s_assign ?_; dsimp only [we, wes, wbo, Option.toList, g0, g1, g2, g3, g4, g5, g6, g7, g8, g9, g10, g11, List.set_cons_zero, List.set_cons_succ, onDef, mthQ, methP, asI, asB, slQ, nn, binP, cmpQ, cmpP, subP, bfP, augP, inStr, shorts, Gl.val, tn0, tn1, tn2, tnl0, tnl1, tnl2, tnl3]
  rw [ho]
  refine ⟨by omega, by omega, ?_⟩
  refine s_assign ?_; dsimp only [we, wes, wbo, Option.toList, g0, g1, g2, g3, g4, g5, g6, g7, g8, g9, g10, g11, List.set_cons_zero, List.set_cons_succ, onDef, mthQ, methP, asI, asB, slQ, nn, binP, cmpQ, cmpP, subP, bfP, augP, inStr, shorts, Gl.val, tn0, tn1, tn2, tnl0, tnl1, tnl2, tnl3]
  refine closer_c ?_
  rw [hc]
  refine s_assign ?_; dsimp only [we, wes, wbo, Option.toList, g0, g1, g2, g3, g4, g5, g6, g7, g8, g9, g10, g11, List.set_cons_zero, List.set_cons_succ, onDef, mthQ, methP, asI, asB, slQ, nn, binP, cmpQ, cmpP, subP, bfP, augP, inStr, shorts, Gl.val, tn0, tn1, tn2, tnl0, tnl1, tnl2, tnl3]
  refine s_assign ?_; dsimp only [we, wes, wbo, Option.toList, g0, g1, g2, g3, g4, g5, g6, g7, g8, g9, g10, g11, List.set_cons_zero, List.set_cons_succ, onDef, mthQ, methP, asI, asB, slQ, nn, binP, cmpQ, cmpP, subP, bfP, augP, inStr, shorts, Gl.val, tn0, tn1, tn2, tnl0, tnl1, tnl2, tnl3]
  refine s_while (fun m σ O' => ∃ (d e : Nat) (sg : V), σ = [.str t, .int p, .str [o], .str [c], .int d, .int e, sg] ∧ O' = upd O L .frame ∧ 1 ≤ d ∧ p + 1 ≤ e ∧ m = t.length + 2 - e ∧
    scan c o 1 (t.drop (p + 1)) = (scan c o d (t.drop e)).map (· + (e - (p + 1)))) (t.length + 2 - (p + 1)) ⟨1, p + 1, .undef, rfl, rfl, by omega, by omega, rfl, by simp⟩ ?_
  rintro m σ O' ⟨d, e, sg, rfl, rfl, hd, he, rfl, hs⟩
  dsimp only [we, wes, wbo, Option.toList, g0, g1, g2, g3, g4, g5, g6, g7, g8, g9, g10, g11, List.set_cons_zero, List.set_cons_succ, onDef, mthQ, methP, asI, asB, slQ, nn, binP, cmpQ, cmpP, subP, bfP, augP, inStr, shorts, Gl.val, tn0, tn1, tn2, tnl0, tnl1, tnl2, tnl3]
  refine i_s (fun hl => ?_) (fun hl => ?_)
  · have hl : e < t.length := by simpa using hl
    have hx : t[e]? = some t[e] := List.getElem?_eq_getElem hl
    have hdrop : t.drop e = t[e] :: t.drop (e + 1) := List.drop_eq_getElem_cons hl
    generalize t[e] = x at hx hdrop
    rw [hdrop] at hs
    refine s_assign ?_; dsimp only [we, wes, wbo, Option.toList, g0, g1, g2, g3, g4, g5, g6, g7, g8, g9, g10, g11, List.set_cons_zero, List.set_cons_succ, onDef, mthQ, methP, asI, asB, slQ, nn, binP, cmpQ, cmpP, subP, bfP, augP, inStr, shorts, Gl.val, tn0, tn1, tn2, tnl0, tnl1, tnl2, tnl3]
    refine ⟨by omega, x, hx, ?_⟩
    refine s_ifs ?_; dsimp only [we, wes, wbo, Option.toList, g0, g1, g2, g3, g4, g5, g6, g7, g8, g9, g10, g11, List.set_cons_zero, List.set_cons_succ, onDef, mthQ, methP, asI, asB, slQ, nn, binP, cmpQ, cmpP, subP, bfP, augP, inStr, shorts, Gl.val, tn0, tn1, tn2, tnl0, tnl1, tnl2, tnl3]
    by_cases h1 : x = 92
    · refine i_t (by simp [h1]) ?_
      refine s_aug ?_; dsimp only [we, wes, wbo, Option.toList, g0, g1, g2, g3, g4, g5, g6, g7, g8, g9, g10, g11, List.set_cons_zero, List.set_cons_succ, onDef, mthQ, methP, asI, asB, slQ, nn, binP, cmpQ, cmpP, subP, bfP, augP, inStr, shorts, Gl.val, tn0, tn1, tn2, tnl0, tnl1, tnl2, tnl3]
      refine s_cont ?_
      dsimp only [seqK, loopK, leave]
      refine ⟨t.length + 2 - (e + 2), by omega, d, e + 2, _, rfl, rfl, hd, by omega, rfl, ?_⟩
      rw [hs, h1, scan_back, List.drop_drop, Option.map_map]
      congr 1
      funext k
      show k + 2 + (e - (p + 1)) = k + (e + 2 - (p + 1))
      omega
    · refine i_f (by simpa using h1) ?_
      refine s_join ?_
      refine s_ifs ?_; dsimp only [we, wes, wbo, Option.toList, g0, g1, g2, g3, g4, g5, g6, g7, g8, g9, g10, g11, List.set_cons_zero, List.set_cons_succ, onDef, mthQ, methP, asI, asB, slQ, nn, binP, cmpQ, cmpP, subP, bfP, augP, inStr, shorts, Gl.val, tn0, tn1, tn2, tnl0, tnl1, tnl2, tnl3]
      by_cases h2 : x = c
      · refine i_t (by simp [h2]) ?_
        refine s_aug ?_; dsimp only [we, wes, wbo, Option.toList, g0, g1, g2, g3, g4, g5, g6, g7, g8, g9, g10, g11, List.set_cons_zero, List.set_cons_succ, onDef, mthQ, methP, asI, asB, slQ, nn, binP, cmpQ, cmpP, subP, bfP, augP, inStr, shorts, Gl.val, tn0, tn1, tn2, tnl0, tnl1, tnl2, tnl3]
        refine s_ifs ?_; dsimp only [we, wes, wbo, Option.toList, g0, g1, g2, g3, g4, g5, g6, g7, g8, g9, g10, g11, List.set_cons_zero, List.set_cons_succ, onDef, mthQ, methP, asI, asB, slQ, nn, binP, cmpQ, cmpP, subP, bfP, augP, inStr, shorts, Gl.val, tn0, tn1, tn2, tnl0, tnl1, tnl2, tnl3]
        by_cases h3 : d = 1
        · refine i_t (by simp [h3]) ?_
          refine s_ret ?_; dsimp only [we, wes, wbo, Option.toList, g0, g1, g2, g3, g4, g5, g6, g7, g8, g9, g10, g11, List.set_cons_zero, List.set_cons_succ, onDef, mthQ, methP, asI, asB, slQ, nn, binP, cmpQ, cmpP, subP, bfP, augP, inStr, shorts, Gl.val, tn0, tn1, tn2, tnl0, tnl1, tnl2, tnl3]
          dsimp only [seqK, loopK, leave]
          subst h3
          rw [hs, h2, scan_close hc2] at h
          simp only [Option.map_some, Nat.zero_add] at h
          have e1 : p + 1 + (e - (p + 1)) = e := by omega
          rw [e1] at h
          exact ⟨by omega, by omega, .pure hL h⟩
        · refine i_f (by simp; omega) ?_
          refine s_join (s_join ?_)
          refine s_aug ?_; dsimp only [we, wes, wbo, Option.toList, g0, g1, g2, g3, g4, g5, g6, g7, g8, g9, g10, g11, List.set_cons_zero, List.set_cons_succ, onDef, mthQ, methP, asI, asB, slQ, nn, binP, cmpQ, cmpP, subP, bfP, augP, inStr, shorts, Gl.val, tn0, tn1, tn2, tnl0, tnl1, tnl2, tnl3]
          refine s_nil ?_
          dsimp only [seqK, loopK, leave]
          refine ⟨t.length + 2 - (e + 1), by omega, d - 1, e + 1, .str [x], (by simp; omega), rfl, by omega, by omega, rfl, ?_⟩
          rw [hs, h2, scan_less hc2 h3, Option.map_map]
          congr 1
          funext k
          show k + 1 + (e - (p + 1)) = k + (e + 1 - (p + 1))
          omega
      · refine i_f (by simpa using h2) ?_
        refine s_ifs ?_; dsimp only [we, wes, wbo, Option.toList, g0, g1, g2, g3, g4, g5, g6, g7, g8, g9, g10, g11, List.set_cons_zero, List.set_cons_succ, onDef, mthQ, methP, asI, asB, slQ, nn, binP, cmpQ, cmpP, subP, bfP, augP, inStr, shorts, Gl.val, tn0, tn1, tn2, tnl0, tnl1, tnl2, tnl3]
        by_cases h3 : x = o
        · refine i_t (by simp [h3]) ?_
          refine s_aug ?_; dsimp only [we, wes, wbo, Option.toList, g0, g1, g2, g3, g4, g5, g6, g7, g8, g9, g10, g11, List.set_cons_zero, List.set_cons_succ, onDef, mthQ, methP, asI, asB, slQ, nn, binP, cmpQ, cmpP, subP, bfP, augP, inStr, shorts, Gl.val, tn0, tn1, tn2, tnl0, tnl1, tnl2, tnl3]
          refine s_join (s_join ?_)
          refine s_aug ?_; dsimp only [we, wes, wbo, Option.toList, g0, g1, g2, g3, g4, g5, g6, g7, g8, g9, g10, g11, List.set_cons_zero, List.set_cons_succ, onDef, mthQ, methP, asI, asB, slQ, nn, binP, cmpQ, cmpP, subP, bfP, augP, inStr, shorts, Gl.val, tn0, tn1, tn2, tnl0, tnl1, tnl2, tnl3]
          refine s_nil ?_
          dsimp only [seqK, loopK, leave]
          refine ⟨t.length + 2 - (e + 1), by omega, d + 1, e + 1, _, rfl, rfl, by omega, by omega, rfl, ?_⟩
          rw [hs, h3, scan_more ho2 (by rintro rfl; exact h2 h3), Option.map_map]
          congr 1
          funext k
          show k + 1 + (e - (p + 1)) = k + (e + 1 - (p + 1))
          omega
        · refine i_f (by simpa using h3) ?_
          refine s_join (s_join ?_)
          refine s_aug ?_; dsimp only [we, wes, wbo, Option.toList, g0, g1, g2, g3, g4, g5, g6, g7, g8, g9, g10, g11, List.set_cons_zero, List.set_cons_succ, onDef, mthQ, methP, asI, asB, slQ, nn, binP, cmpQ, cmpP, subP, bfP, augP, inStr, shorts, Gl.val, tn0, tn1, tn2, tnl0, tnl1, tnl2, tnl3]
          refine s_nil ?_
          dsimp only [seqK, loopK, leave]
          refine ⟨t.length + 2 - (e + 1), by omega, d, e + 1, _, rfl, rfl, by omega, by omega, rfl, ?_⟩
          rw [hs, scan_on h1 h2 h3, Option.map_map]
          congr 1
          funext k
          show k + 1 + (e - (p + 1)) = k + (e + 1 - (p + 1))
          omega
  · have hl : t.length ≤ e := by simpa using hl
    rw [List.drop_eq_nil_of_le hl] at hs
    simp only [scan, Option.map_none] at hs
    rw [hs] at h
    refine s_raise ?_; dsimp only [we, wes, wbo, Option.toList, g0, g1, g2, g3, g4, g5, g6, g7, g8, g9, g10, g11, List.set_cons_zero, List.set_cons_succ, onDef, mthQ, methP, asI, asB, slQ, nn, binP, cmpQ, cmpP, subP, bfP, augP, inStr, shorts, Gl.val, tn0, tn1, tn2, tnl0, tnl1, tnl2, tnl3]
    refine lineOf_c ?_
    exact .pure hL h
/-- the inner text without its guards -/
noncomputable def ung (o c : List Nat) (p : Bool) : List Nat → List Nat
  | [] => []
  | [x] => [x]
  | x :: f :: r => if x = 92 then (if [f] = o ∨ [f] = c ∨ (p = true ∧ f = 92) then f :: ung o c p r else 92 :: f :: ung o c p r) else x :: ung o c p (f :: r)
theorem ung_x {o c : List Nat} {p : Bool} {x : Nat} {r : List Nat} (h : x ≠ 92) : ung o c p (x :: r) = x :: ung o c p r := by
  cases r with
  | nil => rfl
  | cons f r => simp [ung, h]
theorem ung_c {t o : List Nat} {p : Bool} (hz : t.length ≤ 100000) (k : K (.str (ung o (clo o) p t)) O) : Hold (CC (n + 2) .unguarded [.str t, .str o, .bool p] O K E) := by
  refine ⟨⟨rfl, fun L hL => Hold.out ?_⟩⟩; dsimp only [start, names, ar, List.length_cons, List.length_nil, Nat.zero_add, Nat.reduceAdd, Nat.reduceSub, Nat.sub_self, List.replicate, List.append_nil, List.cons_append, List.nil_append]
  refine s_assign ?_; dsimp only [we, wes, wbo, Option.toList, g0, g1, g2, g3, g4, g5, g6, g7, g8, g9, g10, g11, List.set_cons_zero, List.set_cons_succ, onDef, mthQ, methP, asI, asB, slQ, nn, binP, cmpQ, cmpP, subP, bfP, augP, inStr, shorts, Gl.val, tn0, tn1, tn2, tnl0, tnl1, tnl2, tnl3]
  refine closer_c ?_
  refine s_assign ?_; dsimp only [we, wes, wbo, Option.toList, g0, g1, g2, g3, g4, g5, g6, g7, g8, g9, g10, g11, List.set_cons_zero, List.set_cons_succ, onDef, mthQ, methP, asI, asB, slQ, nn, binP, cmpQ, cmpP, subP, bfP, augP, inStr, shorts, Gl.val, tn0, tn1, tn2, tnl0, tnl1, tnl2, tnl3]
  refine s_assign ?_; dsimp only [we, wes, wbo, Option.toList, g0, g1, g2, g3, g4, g5, g6, g7, g8, g9, g10, g11, List.set_cons_zero, List.set_cons_succ, onDef, mthQ, methP, asI, asB, slQ, nn, binP, cmpQ, cmpP, subP, bfP, augP, inStr, shorts, Gl.val, tn0, tn1, tn2, tnl0, tnl1, tnl2, tnl3]
  refine s_while (fun m σ O' => ∃ (a : Nat) (out : List Nat) (fo : V), σ = [.str t, .str o, .bool p, .str (clo o), .str out, .int a, fo] ∧ O' = upd O L .frame ∧ a ≤ t.length ∧ out.length ≤ a ∧ m = t.length - a ∧
    ung o (clo o) p t = out ++ ung o (clo o) p (t.drop a)) t.length ⟨0, [], .undef, rfl, rfl, by omega, by simp, rfl, rfl⟩ ?_
  rintro m σ O' ⟨a, out, fo, rfl, rfl, hal, hol, rfl, hs⟩
  dsimp only [we, wes, wbo, Option.toList, g0, g1, g2, g3, g4, g5, g6, g7, g8, g9, g10, g11, List.set_cons_zero, List.set_cons_succ, onDef, mthQ, methP, asI, asB, slQ, nn, binP, cmpQ, cmpP, subP, bfP, augP, inStr, shorts, Gl.val, tn0, tn1, tn2, tnl0, tnl1, tnl2, tnl3]
  refine i_s (fun hl => ?_) (fun hl => ?_)
  · have hl : a < t.length := by simpa using hl
    have hx : t[a]? = some t[a] := List.getElem?_eq_getElem hl
    have hdrop : t.drop a = t[a] :: t.drop (a + 1) := List.drop_eq_getElem_cons hl
    generalize t[a] = x at hx hdrop
    rw [hdrop] at hs
    have step1 : (x ≠ 92 ∨ t[a + 1]? = none) → ∃ m', m' < t.length - a ∧ ∃ (a' : Nat) (out' : List Nat) (fo' : V), ([.str t, .str o, .bool p, .str (clo o), .str (out ++ [x]), .int ((a : Int) + 1), .str (t[a + 1]?).toList] : List V) = [.str t, .str o, .bool p, .str (clo o), .str out', .int a', fo'] ∧ upd O L .frame = upd O L .frame ∧ a' ≤ t.length ∧ out'.length ≤ a' ∧ m' = t.length - a' ∧
        ung o (clo o) p t = out' ++ ung o (clo o) p (t.drop a') := fun h => by
      refine ⟨_, by omega, a + 1, out ++ [x], _, rfl, rfl, hl, by simp; omega, rfl, ?_⟩
      rw [hs, List.append_assoc]
      congr 1
      rcases h with h | h
      · exact ung_x h
      · have : t.length ≤ a + 1 := by simpa using h
        rw [List.drop_eq_nil_of_le this]
        rfl
    refine s_assign ?_; dsimp only [we, wes, wbo, Option.toList, g0, g1, g2, g3, g4, g5, g6, g7, g8, g9, g10, g11, List.set_cons_zero, List.set_cons_succ, onDef, mthQ, methP, asI, asB, slQ, nn, binP, cmpQ, cmpP, subP, bfP, augP, inStr, shorts, Gl.val, tn0, tn1, tn2, tnl0, tnl1, tnl2, tnl3]
    rw [cut12]
    refine ⟨by omega, by omega, ?_⟩
    refine s_ifs ?_; dsimp only [we, wes, wbo, Option.toList, g0, g1, g2, g3, g4, g5, g6, g7, g8, g9, g10, g11, List.set_cons_zero, List.set_cons_succ, onDef, mthQ, methP, asI, asB, slQ, nn, binP, cmpQ, cmpP, subP, bfP, augP, inStr, shorts, Gl.val, tn0, tn1, tn2, tnl0, tnl1, tnl2, tnl3]
    refine ⟨by omega, x, hx, i_s (fun h1 => ?_) (fun h1 => ?_)⟩
    · have h1' : x ≠ 92 := by simpa using h1
      refine i_t h1 ?_
      refine s_aug ?_; dsimp only [we, wes, wbo, Option.toList, g0, g1, g2, g3, g4, g5, g6, g7, g8, g9, g10, g11, List.set_cons_zero, List.set_cons_succ, onDef, mthQ, methP, asI, asB, slQ, nn, binP, cmpQ, cmpP, subP, bfP, augP, inStr, shorts, Gl.val, tn0, tn1, tn2, tnl0, tnl1, tnl2, tnl3]
      refine ⟨by omega, x, hx, szle (by simp; omega), ?_⟩
      refine s_aug ?_; dsimp only [we, wes, wbo, Option.toList, g0, g1, g2, g3, g4, g5, g6, g7, g8, g9, g10, g11, List.set_cons_zero, List.set_cons_succ, onDef, mthQ, methP, asI, asB, slQ, nn, binP, cmpQ, cmpP, subP, bfP, augP, inStr, shorts, Gl.val, tn0, tn1, tn2, tnl0, tnl1, tnl2, tnl3]
      refine s_cont ?_
      dsimp only [seqK, loopK, leave]
      exact step1 (.inl h1')
    · have h1' : x = 92 := by simpa using h1
      cases hf : t[a + 1]? with
      | none =>
        refine i_t (by simp) ?_
        refine s_aug ?_; dsimp only [we, wes, wbo, Option.toList, g0, g1, g2, g3, g4, g5, g6, g7, g8, g9, g10, g11, List.set_cons_zero, List.set_cons_succ, onDef, mthQ, methP, asI, asB, slQ, nn, binP, cmpQ, cmpP, subP, bfP, augP, inStr, shorts, Gl.val, tn0, tn1, tn2, tnl0, tnl1, tnl2, tnl3]
        refine ⟨by omega, x, hx, szle (by simp; omega), ?_⟩
        refine s_aug ?_; dsimp only [we, wes, wbo, Option.toList, g0, g1, g2, g3, g4, g5, g6, g7, g8, g9, g10, g11, List.set_cons_zero, List.set_cons_succ, onDef, mthQ, methP, asI, asB, slQ, nn, binP, cmpQ, cmpP, subP, bfP, augP, inStr, shorts, Gl.val, tn0, tn1, tn2, tnl0, tnl1, tnl2, tnl3]
        refine s_cont ?_
        dsimp only [seqK, loopK, leave]
        have := step1 (.inr hf)
        rw [hf] at this
        exact this
      | some f =>
        have hf1 : a + 1 < t.length := (List.getElem?_eq_some_iff.mp hf).1
        have hdrop2 : t.drop (a + 1) = f :: t.drop (a + 2) := by
          rw [List.drop_eq_getElem_cons hf1, (List.getElem?_eq_some_iff.mp hf).2]
        rw [hdrop2, h1'] at hs
        refine i_f (by simp) (s_join ?_)
        have fin : ∀ z : List Nat, ung o (clo o) p (92 :: f :: t.drop (a + 2)) = z ++ ung o (clo o) p (t.drop (a + 2)) → z.length ≤ 2 →
            Hold (wsb (CC (n + 1)) d_unguarded_6 [.str t, .str o, .bool p, .str (clo o), .str (out ++ z), .int a, .str [f]] (upd O L .frame) (loopK (fun σ' O' => ∃ m', m' < t.length - a ∧ ∃ (a' : Nat) (out' : List Nat) (fo' : V), σ' = [.str t, .str o, .bool p, .str (clo o), .str out', .int a', fo'] ∧ O' = upd O L .frame ∧ a' ≤ t.length ∧ out'.length ≤ a' ∧ m' = t.length - a' ∧
              ung o (clo o) p t = out' ++ ung o (clo o) p (t.drop a')) (seqK (CC (n + 1)) d_unguarded_10 (leave O L K) (Gone O L E))) (Gone O L E)) := fun z hz2 hz3 => by
          refine s_aug ?_; dsimp only [we, wes, wbo, Option.toList, g0, g1, g2, g3, g4, g5, g6, g7, g8, g9, g10, g11, List.set_cons_zero, List.set_cons_succ, onDef, mthQ, methP, asI, asB, slQ, nn, binP, cmpQ, cmpP, subP, bfP, augP, inStr, shorts, Gl.val, tn0, tn1, tn2, tnl0, tnl1, tnl2, tnl3]
          refine s_nil ?_
          dsimp only [seqK, loopK, leave]
          exact ⟨_, by omega, a + 2, out ++ z, _, rfl, rfl, hf1, by simp; omega, rfl, by rw [hs, hz2, List.append_assoc]⟩
        refine s_ifs ?_; dsimp only [we, wes, wbo, Option.toList, g0, g1, g2, g3, g4, g5, g6, g7, g8, g9, g10, g11, List.set_cons_zero, List.set_cons_succ, onDef, mthQ, methP, asI, asB, slQ, nn, binP, cmpQ, cmpP, subP, bfP, augP, inStr, shorts, Gl.val, tn0, tn1, tn2, tnl0, tnl1, tnl2, tnl3]
        have yes : ([f] = o ∨ [f] = clo o ∨ (p = true ∧ f = 92)) → Hold (wsb (CC (n + 1)) d_unguarded_4 [.str t, .str o, .bool p, .str (clo o), .str out, .int a, .str [f]] (upd O L .frame) (seqK (CC (n + 1)) d_unguarded_6 (loopK (fun σ' O' => ∃ m', m' < t.length - a ∧ ∃ (a' : Nat) (out' : List Nat) (fo' : V), σ' = [.str t, .str o, .bool p, .str (clo o), .str out', .int a', fo'] ∧ O' = upd O L .frame ∧ a' ≤ t.length ∧ out'.length ≤ a' ∧ m' = t.length - a' ∧
              ung o (clo o) p t = out' ++ ung o (clo o) p (t.drop a')) (seqK (CC (n + 1)) d_unguarded_10 (leave O L K) (Gone O L E))) (Gone O L E)) (Gone O L E)) := fun h => by
          refine s_aug ?_; dsimp only [we, wes, wbo, Option.toList, g0, g1, g2, g3, g4, g5, g6, g7, g8, g9, g10, g11, List.set_cons_zero, List.set_cons_succ, onDef, mthQ, methP, asI, asB, slQ, nn, binP, cmpQ, cmpP, subP, bfP, augP, inStr, shorts, Gl.val, tn0, tn1, tn2, tnl0, tnl1, tnl2, tnl3]
          exact ⟨szle (by simp; omega), s_join (fin [f] (by simp only [ung, if_true]; rw [if_pos h]; rfl) (by simp))⟩
        have no : ¬([f] = o ∨ [f] = clo o ∨ (p = true ∧ f = 92)) → Hold (wsb (CC (n + 1)) d_unguarded_5 [.str t, .str o, .bool p, .str (clo o), .str out, .int a, .str [f]] (upd O L .frame) (seqK (CC (n + 1)) d_unguarded_6 (loopK (fun σ' O' => ∃ m', m' < t.length - a ∧ ∃ (a' : Nat) (out' : List Nat) (fo' : V), σ' = [.str t, .str o, .bool p, .str (clo o), .str out', .int a', fo'] ∧ O' = upd O L .frame ∧ a' ≤ t.length ∧ out'.length ≤ a' ∧ m' = t.length - a' ∧
              ung o (clo o) p t = out' ++ ung o (clo o) p (t.drop a')) (seqK (CC (n + 1)) d_unguarded_10 (leave O L K) (Gone O L E))) (Gone O L E)) (Gone O L E)) := fun h => by
          refine s_aug ?_; dsimp only [we, wes, wbo, Option.toList, g0, g1, g2, g3, g4, g5, g6, g7, g8, g9, g10, g11, List.set_cons_zero, List.set_cons_succ, onDef, mthQ, methP, asI, asB, slQ, nn, binP, cmpQ, cmpP, subP, bfP, augP, inStr, shorts, Gl.val, tn0, tn1, tn2, tnl0, tnl1, tnl2, tnl3]
          rw [cut02 hx hf, h1']
          exact ⟨by omega, by omega, szle (by simp; omega), s_join (fin [92, f] (by simp only [ung, if_true]; rw [if_neg h]; rfl) (by simp))⟩
        refine i_s (fun q => i_t q (yes (.inl (by simpa using q)))) (fun q => ?_)
        refine i_s (fun q2 => i_t q2 (yes (.inr (.inl (by simpa using q2))))) (fun q2 => ?_)
        cases hp : p with
        | false =>
          rw [hp] at no
          refine i_t rfl (i_f rfl (i_f rfl (no ?_)))
          rintro (h | h | h)
          · simp [h] at q
          · simp [h] at q2
          · cases h.1
        | true =>
          rw [hp] at yes no
          cases q4 : ([f] == [92]) with
          | true => exact i_f rfl (i_f rfl (i_t rfl (i_t rfl (yes (.inr (.inr ⟨rfl, by simpa using q4⟩))))))
          | false =>
            refine i_f rfl ?_
            first | refine i_f rfl (i_f rfl (no ?_)) | refine i_t rfl (i_f rfl (i_f rfl (no ?_)))
            rintro (h | h | h)
            · simp [h] at q
            · simp [h] at q2
            · simp [h.2] at q4
  · have hl : t.length ≤ a := by simpa using hl
    rw [List.drop_eq_nil_of_le hl] at hs
    refine s_ret ?_; dsimp only [we, wes, wbo, Option.toList, g0, g1, g2, g3, g4, g5, g6, g7, g8, g9, g10, g11, List.set_cons_zero, List.set_cons_succ, onDef, mthQ, methP, asI, asB, slQ, nn, binP, cmpQ, cmpP, subP, bfP, augP, inStr, shorts, Gl.val, tn0, tn1, tn2, tnl0, tnl1, tnl2, tnl3]
    dsimp only [seqK, loopK, leave]
    refine .pure hL ?_
    rw [hs] at k
    simpa [ung] using k
theorem readq_c {t o : List Nat} (hz : t.length ≤ 100000) (k : K (.str (ung o (clo o) true t)) O) : Hold (CC (n + 3) .read_q [.str t, .str o] O K E) := by
  refine ⟨⟨rfl, fun L hL => Hold.out ?_⟩⟩; dsimp only [start, names, ar, List.length_cons, List.length_nil, Nat.zero_add, Nat.reduceAdd, Nat.reduceSub, Nat.sub_self, List.replicate, List.append_nil, List.cons_append, List.nil_append]
  refine s_ret ?_; dsimp only [we, wes, wbo, Option.toList, g0, g1, g2, g3, g4, g5, g6, g7, g8, g9, g10, g11, List.set_cons_zero, List.set_cons_succ, onDef, mthQ, methP, asI, asB, slQ, nn, binP, cmpQ, cmpP, subP, bfP, augP, inStr, shorts, Gl.val, tn0, tn1, tn2, tnl0, tnl1, tnl2, tnl3]
  exact ung_c hz (.pure hL k)
end

end Mine
end
section
open PySem PySem.W PySem.Calls PyProof.Rows
set_option Elab.async false
set_option maxRecDepth 8000
set_option maxHeartbeats 2000000
set_option linter.all false
namespace Mine
theorem lt1 (a b : Nat) : ltL [a] [b] = decide (a < b) := by
  unfold ltL
  have : ([a] < [b]) ↔ a < b := by
    constructor
    · intro h
      cases h with
      | rel h => exact h
      | cons h => cases h
    · intro h; exact .rel h
  simp [this]
theorem le1 (a b : Nat) : (!ltL [b] [a]) = decide (a ≤ b) := by
  rw [lt1]
  by_cases h : a ≤ b
  · simp [h]
  · simp [h]; omega
noncomputable def rangeB (a b c : Nat) : Bool := decide (a ≤ c) && decide (c ≤ b)
noncomputable def upC (c : Nat) : Nat := if rangeB 97 122 c = true then c - 32 else c
noncomputable def loC (c : Nat) : Nat := if rangeB 65 90 c = true then c + 32 else c
noncomputable def isw (c : Nat) : Bool := rangeB 97 122 c || rangeB 65 90 c || rangeB 48 57 c || c == 95
theorem rng_in {a b c : Nat} {A B : Prop} (h : if rangeB a b c = true then A else B) : if (!ltL [c] [a]) = true then (if (!ltL [b] [c]) = true then A else B) else B := by
  rw [le1, le1]
  unfold rangeB at h
  cases h1 : decide (a ≤ c) with
  | false => rw [h1] at h; exact i_f rfl (by simpa using h)
  | true =>
    rw [h1] at h
    exact i_t rfl (by simpa using h)
theorem rng_out {a b c : Nat} {A B : Prop} (h : if rangeB a b c = true then A else B) : if (!ltL [c] [a]) = true then (if (!ltL [b] [c]) = true then A else B) else B := rng_in h
theorem or_step {p q : Bool} {Q : Bool → Prop} {R : Prop} (h : if (p && q) = true then Q true else R) : if p = true then (if q = true then Q q else R) else (if false = true then Q false else R) := by
  cases p <;> cases q <;> simpa using h
section
variable {n : Nat} {O : MH} {K : V → MH → Prop} {E : Int → MH → Prop}
theorem great_c {c : Nat} (k : K (.str [upC c]) O) : Hold (CC (n + 1) .great_letter [.str [c]] O K E) := by
  refine ⟨⟨rfl, fun L hL => Hold.out ?_⟩⟩; dsimp only [start, names, ar, List.length_cons, List.length_nil, Nat.zero_add, Nat.reduceAdd, Nat.reduceSub, Nat.sub_self, List.replicate, List.append_nil, List.cons_append, List.nil_append]
  refine s_ifs ?_; dsimp only [we, wes, wbo, Option.toList, g0, g1, g2, g3, g4, g5, g6, g7, g8, g9, g10, g11, List.set_cons_zero, List.set_cons_succ, onDef, mthQ, methP, asI, asB, slQ, nn, binP, cmpQ, cmpP, subP, bfP, augP, inStr, shorts, Gl.val, tn0, tn1, tn2, tnl0, tnl1, tnl2, tnl3]
  refine rng_in (i_s (fun h => ?_) (fun h => ?_))
  · have hc : 97 ≤ c ∧ c ≤ 122 := by simpa [rangeB] using h
    refine s_ret ?_; dsimp only [we, wes, wbo, Option.toList, g0, g1, g2, g3, g4, g5, g6, g7, g8, g9, g10, g11, List.set_cons_zero, List.set_cons_succ, onDef, mthQ, methP, asI, asB, slQ, nn, binP, cmpQ, cmpP, subP, bfP, augP, inStr, shorts, Gl.val, tn0, tn1, tn2, tnl0, tnl1, tnl2, tnl3]
    refine ⟨by omega, by omega, ?_⟩
    rw [show ((c : Int) - 32).toNat = c - 32 by omega]
    dsimp only [seqK, loopK, leave]
    exact .pure hL (by rwa [upC, if_pos h] at k)
  · refine s_join ?_
    refine s_ret ?_; dsimp only [we, wes, wbo, Option.toList, g0, g1, g2, g3, g4, g5, g6, g7, g8, g9, g10, g11, List.set_cons_zero, List.set_cons_succ, onDef, mthQ, methP, asI, asB, slQ, nn, binP, cmpQ, cmpP, subP, bfP, augP, inStr, shorts, Gl.val, tn0, tn1, tn2, tnl0, tnl1, tnl2, tnl3]
    exact .pure hL (by rwa [upC, if_neg (by rw [h]; decide)] at k)
theorem small_c {c : Nat} (k : K (.str [loC c]) O) : Hold (CC (n + 1) .small_letter [.str [c]] O K E) := by
  refine ⟨⟨rfl, fun L hL => Hold.out ?_⟩⟩; dsimp only [start, names, ar, List.length_cons, List.length_nil, Nat.zero_add, Nat.reduceAdd, Nat.reduceSub, Nat.sub_self, List.replicate, List.append_nil, List.cons_append, List.nil_append]
  refine s_ifs ?_; dsimp only [we, wes, wbo, Option.toList, g0, g1, g2, g3, g4, g5, g6, g7, g8, g9, g10, g11, List.set_cons_zero, List.set_cons_succ, onDef, mthQ, methP, asI, asB, slQ, nn, binP, cmpQ, cmpP, subP, bfP, augP, inStr, shorts, Gl.val, tn0, tn1, tn2, tnl0, tnl1, tnl2, tnl3]
  refine rng_in (i_s (fun h => ?_) (fun h => ?_))
  · have hc : 65 ≤ c ∧ c ≤ 90 := by simpa [rangeB] using h
    refine s_ret ?_; dsimp only [we, wes, wbo, Option.toList, g0, g1, g2, g3, g4, g5, g6, g7, g8, g9, g10, g11, List.set_cons_zero, List.set_cons_succ, onDef, mthQ, methP, asI, asB, slQ, nn, binP, cmpQ, cmpP, subP, bfP, augP, inStr, shorts, Gl.val, tn0, tn1, tn2, tnl0, tnl1, tnl2, tnl3]
    refine ⟨by omega, by omega, ?_⟩
    rw [show ((c : Int) + 32).toNat = c + 32 by omega]
    dsimp only [seqK, loopK, leave]
    exact .pure hL (by rwa [loC, if_pos h] at k)
  · refine s_join ?_
    refine s_ret ?_; dsimp only [we, wes, wbo, Option.toList, g0, g1, g2, g3, g4, g5, g6, g7, g8, g9, g10, g11, List.set_cons_zero, List.set_cons_succ, onDef, mthQ, methP, asI, asB, slQ, nn, binP, cmpQ, cmpP, subP, bfP, augP, inStr, shorts, Gl.val, tn0, tn1, tn2, tnl0, tnl1, tnl2, tnl3]
    exact .pure hL (by rwa [loC, if_neg (by rw [h]; decide)] at k)
theorem plainw_c {c : Nat} (k : K (.bool (isw c)) O) : Hold (CC (n + 1) .is_plain_word_sign [.str [c]] O K E) := by
  refine ⟨⟨rfl, fun L hL => Hold.out ?_⟩⟩; dsimp only [start, names, ar, List.length_cons, List.length_nil, Nat.zero_add, Nat.reduceAdd, Nat.reduceSub, Nat.sub_self, List.replicate, List.append_nil, List.cons_append, List.nil_append]
  refine s_ret ?_; dsimp only [we, wes, wbo, Option.toList, g0, g1, g2, g3, g4, g5, g6, g7, g8, g9, g10, g11, List.set_cons_zero, List.set_cons_succ, onDef, mthQ, methP, asI, asB, slQ, nn, binP, cmpQ, cmpP, subP, bfP, augP, inStr, shorts, Gl.val, tn0, tn1, tn2, tnl0, tnl1, tnl2, tnl3]
  have key : ∀ b : Bool, b = isw c → leave O L K (Fl.ret (.bool b)) [.str [c]] (upd O L .frame) := fun b h => by
    subst h; exact Back.pure hL k
  rw [le1, le1, le1, le1, le1, le1]
  refine or_step (Q := fun b => leave O L K (Fl.ret (.bool b)) [.str [c]] (upd O L .frame)) (i_s (fun h => key _ ?_) (fun h1 => ?_))
  · simp [isw, rangeB] at h ⊢; simp [h]
  refine or_step (Q := fun b => leave O L K (Fl.ret (.bool b)) [.str [c]] (upd O L .frame)) (i_s (fun h => key _ ?_) (fun h2 => ?_))
  · simp [isw, rangeB] at h ⊢; simp [h]
  refine or_step (Q := fun b => leave O L K (Fl.ret (.bool b)) [.str [c]] (upd O L .frame)) (i_s (fun h => key _ ?_) (fun h3 => ?_))
  · simp [isw, rangeB] at h ⊢; simp [h]
  have e : ([c] == [95]) = isw c := by
    unfold isw rangeB
    rw [h1, h2, h3]
    simp
  exact i_s (fun _ => key _ e) (fun _ => key _ e)
/-- what casing makes of one sign -/
noncomputable def f1 (m : List Nat) (c : Nat) : List Nat := if m = [85] then [upC c] else if m = [81] then (if (!isw c && decide (c < 128)) = true then [92, c] else [c]) else [loC c]
noncomputable def cas (m x : List Nat) : List Nat := if m = [117] then (x.take 1).flatMap (f1 [85]) ++ x.drop 1 else if m = [108] then (x.take 1).flatMap (f1 [76]) ++ x.drop 1 else x.flatMap (f1 m)
theorem f1_len (m : List Nat) (c : Nat) : (f1 m c).length ≤ 2 := by
  unfold f1
  split
  · simp
  · split
    · split <;> simp
    · simp
theorem fm_len (m x : List Nat) : (x.flatMap (f1 m)).length ≤ 2 * x.length := by
  induction x with
  | nil => simp
  | cons c x ih =>
    have := f1_len m c
    rw [List.flatMap_cons, List.length_append, List.length_cons]
    omega
theorem cas0_c {m x : List Nat} (hz : x.length ≤ 100000) (h1 : m ≠ [117]) (h2 : m ≠ [108]) (k : K (.str (x.flatMap (f1 m))) O) : Hold (CC (n + 2) .cased_text [.str m, .str x] O K E) := by
  refine ⟨⟨rfl, fun L hL => Hold.out ?_⟩⟩; dsimp only [start, names, ar, List.length_cons, List.length_nil, Nat.zero_add, Nat.reduceAdd, Nat.reduceSub, Nat.sub_self, List.replicate, List.append_nil, List.cons_append, List.nil_append]
  refine s_ifs ?_; dsimp only [we, wes, wbo, Option.toList, g0, g1, g2, g3, g4, g5, g6, g7, g8, g9, g10, g11, List.set_cons_zero, List.set_cons_succ, onDef, mthQ, methP, asI, asB, slQ, nn, binP, cmpQ, cmpP, subP, bfP, augP, inStr, shorts, Gl.val, tn0, tn1, tn2, tnl0, tnl1, tnl2, tnl3]
  refine i_f (by simpa using h1) (s_join ?_)
  refine s_ifs ?_; dsimp only [we, wes, wbo, Option.toList, g0, g1, g2, g3, g4, g5, g6, g7, g8, g9, g10, g11, List.set_cons_zero, List.set_cons_succ, onDef, mthQ, methP, asI, asB, slQ, nn, binP, cmpQ, cmpP, subP, bfP, augP, inStr, shorts, Gl.val, tn0, tn1, tn2, tnl0, tnl1, tnl2, tnl3]
  refine i_f (by simpa using h2) (s_join ?_)
  refine s_assign ?_; dsimp only [we, wes, wbo, Option.toList, g0, g1, g2, g3, g4, g5, g6, g7, g8, g9, g10, g11, List.set_cons_zero, List.set_cons_succ, onDef, mthQ, methP, asI, asB, slQ, nn, binP, cmpQ, cmpP, subP, bfP, augP, inStr, shorts, Gl.val, tn0, tn1, tn2, tnl0, tnl1, tnl2, tnl3]
  refine s_for ?_
  dsimp only [we, wes, wbo, Option.toList, g0, g1, g2, g3, g4, g5, g6, g7, g8, g9, g10, g11, List.set_cons_zero, List.set_cons_succ, onDef, mthQ, methP, asI, asB, slQ, nn, binP, cmpQ, cmpP, subP, bfP, augP, inStr, shorts, Gl.val, tn0, tn1, tn2, tnl0, tnl1, tnl2, tnl3]
  refine ⟨_, rfl, fun l σ O' => ∃ (r done : List Nat) (sg : V), l = r.map (fun c => V.str [c]) ∧ σ = [.str m, .str x, .str (done.flatMap (f1 m)), sg] ∧ O' = upd O L .frame ∧ x = done ++ r, ⟨x, [], .undef, rfl, rfl, rfl, rfl⟩, ?_, ?_⟩
  · rintro v l σ O' ⟨r, done, sg, hl, rfl, rfl, hx⟩
    cases r with
    | nil => cases hl
    | cons c r =>
      cases hl
      have hlen : done.length + 1 ≤ 100000 := by
        have := congrArg List.length hx
        rw [List.length_append, List.length_cons] at this
        omega
      have hfm := fm_len m done
      have next : ∃ (r' done' : List Nat) (sg' : V), r.map (fun c => V.str [c]) = r'.map (fun c => V.str [c]) ∧ ([.str m, .str x, .str (done.flatMap (f1 m) ++ f1 m c), .str [c]] : List V) = [.str m, .str x, .str (done'.flatMap (f1 m)), sg'] ∧ upd O L .frame = upd O L .frame ∧ x = done' ++ r' :=
        ⟨r, done ++ [c], .str [c], rfl, by rw [List.flatMap_append]; simp, rfl, by rw [hx]; simp⟩
      refine s_ifs ?_; dsimp only [we, wes, wbo, Option.toList, g0, g1, g2, g3, g4, g5, g6, g7, g8, g9, g10, g11, List.set_cons_zero, List.set_cons_succ, onDef, mthQ, methP, asI, asB, slQ, nn, binP, cmpQ, cmpP, subP, bfP, augP, inStr, shorts, Gl.val, tn0, tn1, tn2, tnl0, tnl1, tnl2, tnl3]
      by_cases hU : m = [85]
      · refine i_t (by simp [hU]) ?_
        refine s_aug ?_; dsimp only [we, wes, wbo, Option.toList, g0, g1, g2, g3, g4, g5, g6, g7, g8, g9, g10, g11, List.set_cons_zero, List.set_cons_succ, onDef, mthQ, methP, asI, asB, slQ, nn, binP, cmpQ, cmpP, subP, bfP, augP, inStr, shorts, Gl.val, tn0, tn1, tn2, tnl0, tnl1, tnl2, tnl3]
        refine great_c ?_
        refine ⟨szle (by simp only [List.length_cons, List.length_nil]; omega), s_join (s_nil ?_)⟩
        dsimp only [seqK, loopK, leave]
        rw [show f1 m c = [upC c] by rw [f1, if_pos hU]] at next
        exact next
      · refine i_f (by simpa using hU) ?_
        refine s_ifs ?_; dsimp only [we, wes, wbo, Option.toList, g0, g1, g2, g3, g4, g5, g6, g7, g8, g9, g10, g11, List.set_cons_zero, List.set_cons_succ, onDef, mthQ, methP, asI, asB, slQ, nn, binP, cmpQ, cmpP, subP, bfP, augP, inStr, shorts, Gl.val, tn0, tn1, tn2, tnl0, tnl1, tnl2, tnl3]
        by_cases hQ : m = [81]
        · refine i_t (by simp [hQ]) ?_
          refine s_ifs ?_; dsimp only [we, wes, wbo, Option.toList, g0, g1, g2, g3, g4, g5, g6, g7, g8, g9, g10, g11, List.set_cons_zero, List.set_cons_succ, onDef, mthQ, methP, asI, asB, slQ, nn, binP, cmpQ, cmpP, subP, bfP, augP, inStr, shorts, Gl.val, tn0, tn1, tn2, tnl0, tnl1, tnl2, tnl3]
          refine plainw_c ?_
          have yes : (!isw c && decide (c < 128)) = true → f1 m c = [92, c] := fun h => by rw [f1, if_neg hU, if_pos hQ, if_pos h]
          have no : (!isw c && decide (c < 128)) = false → f1 m c = [c] := fun h => by rw [f1, if_neg hU, if_pos hQ, if_neg (by rw [h]; decide)]
          have last : ∀ z : List Nat, z.length ≤ 1 → f1 m c = z ++ [c] → Hold (wsb (CC (n + 1)) d_cased_text_5 [.str m, .str x, .str (done.flatMap (f1 m) ++ z), .str [c]] (upd O L .frame) (seqK (CC (n + 1)) .nil (seqK (CC (n + 1)) .nil (loopK (fun σ O' => ∃ (r_1 done : List Nat) (sg : V), r.map (fun c => V.str [c]) = r_1.map (fun c => V.str [c]) ∧ σ = [.str m, .str x, .str (done.flatMap (f1 m)), sg] ∧ O' = upd O L .frame ∧ x = done ++ r_1)
              (seqK (CC (n + 1)) d_cased_text_10 (leave O L K) (Gone O L E))) (Gone O L E)) (Gone O L E)) (Gone O L E)) := fun z hz1 hz2 => by
            refine s_aug ?_; dsimp only [we, wes, wbo, Option.toList, g0, g1, g2, g3, g4, g5, g6, g7, g8, g9, g10, g11, List.set_cons_zero, List.set_cons_succ, onDef, mthQ, methP, asI, asB, slQ, nn, binP, cmpQ, cmpP, subP, bfP, augP, inStr, shorts, Gl.val, tn0, tn1, tn2, tnl0, tnl1, tnl2, tnl3]
            refine ⟨szle (by simp only [List.length_append, List.length_cons, List.length_nil]; omega), s_join (s_join (s_nil ?_))⟩
            dsimp only [seqK, loopK, leave]
            rw [hz2, ← List.append_assoc] at next
            exact next
          dsimp only [we, wes, wbo, Option.toList, g0, g1, g2, g3, g4, g5, g6, g7, g8, g9, g10, g11, List.set_cons_zero, List.set_cons_succ, onDef, mthQ, methP, asI, asB, slQ, nn, binP, cmpQ, cmpP, subP, bfP, augP, inStr, shorts, Gl.val, tn0, tn1, tn2, tnl0, tnl1, tnl2, tnl3]
          cases hw : isw c with
          | true =>
            refine i_t rfl (i_f rfl (s_join ?_))
            have := last [] (by simp) (by rw [no (by rw [hw]; rfl)]; rfl)
            rwa [List.append_nil] at this
          | false =>
            refine i_f rfl ?_
            cases hq : decide (c < 128) with
            | true =>
              have hq' : decide ((c : Int) < 128) = true := by have := of_decide_eq_true hq; exact decide_eq_true (by omega)
              have w4 : Hold (wsb (CC (n + 1)) d_cased_text_4 [.str m, .str x, .str (done.flatMap (f1 m)), .str [c]] (upd O L .frame) (seqK (CC (n + 1)) d_cased_text_5 (seqK (CC (n + 1)) .nil (seqK (CC (n + 1)) .nil (loopK (fun σ O' => ∃ (r_1 done : List Nat) (sg : V), r.map (fun c => V.str [c]) = r_1.map (fun c => V.str [c]) ∧ σ = [.str m, .str x, .str (done.flatMap (f1 m)), sg] ∧ O' = upd O L .frame ∧ x = done ++ r_1)
                  (seqK (CC (n + 1)) d_cased_text_10 (leave O L K) (Gone O L E))) (Gone O L E)) (Gone O L E)) (Gone O L E)) (Gone O L E)) := by
                refine s_aug ?_; dsimp only [we, wes, wbo, Option.toList, g0, g1, g2, g3, g4, g5, g6, g7, g8, g9, g10, g11, List.set_cons_zero, List.set_cons_succ, onDef, mthQ, methP, asI, asB, slQ, nn, binP, cmpQ, cmpP, subP, bfP, augP, inStr, shorts, Gl.val, tn0, tn1, tn2, tnl0, tnl1, tnl2, tnl3]
                exact ⟨szle (by simp only [List.length_cons, List.length_nil]; omega), s_join (last [92] (by simp) (by rw [yes (by rw [hw, hq]; rfl)]; rfl))⟩
              rw [hq']
              exact i_f rfl (i_t rfl w4)
            | false =>
              have hq' : decide ((c : Int) < 128) = false := by have := of_decide_eq_false hq; exact decide_eq_false (by omega)
              have := last [] (by simp) (by rw [no (by rw [hw, hq]; rfl)]; rfl)
              rw [List.append_nil] at this
              rw [hq']
              exact i_t rfl (i_f rfl (s_join this))
        · refine i_f (by simpa using hQ) ?_
          refine s_aug ?_; dsimp only [we, wes, wbo, Option.toList, g0, g1, g2, g3, g4, g5, g6, g7, g8, g9, g10, g11, List.set_cons_zero, List.set_cons_succ, onDef, mthQ, methP, asI, asB, slQ, nn, binP, cmpQ, cmpP, subP, bfP, augP, inStr, shorts, Gl.val, tn0, tn1, tn2, tnl0, tnl1, tnl2, tnl3]
          refine small_c ?_
          refine ⟨szle (by simp only [List.length_cons, List.length_nil]; omega), s_join (s_join (s_nil ?_))⟩
          dsimp only [seqK, loopK, leave]
          rw [show f1 m c = [loC c] by rw [f1, if_neg hU, if_neg hQ]] at next
          exact next
  · rintro σ O' ⟨r, done, sg, hl, rfl, rfl, hx⟩
    cases r with
    | cons c r => cases hl
    | nil =>
      rw [List.append_nil] at hx
      subst hx
      refine s_ret ?_; dsimp only [we, wes, wbo, Option.toList, g0, g1, g2, g3, g4, g5, g6, g7, g8, g9, g10, g11, List.set_cons_zero, List.set_cons_succ, onDef, mthQ, methP, asI, asB, slQ, nn, binP, cmpQ, cmpP, subP, bfP, augP, inStr, shorts, Gl.val, tn0, tn1, tn2, tnl0, tnl1, tnl2, tnl3]
      exact .pure hL k
theorem cas_c {m x : List Nat} (hz : x.length ≤ 100000) (k : K (.str (cas m x)) O) : Hold (CC (n + 3) .cased_text [.str m, .str x] O K E) := by
  by_cases h1 : m = [117]
  · refine ⟨⟨rfl, fun L hL => Hold.out ?_⟩⟩; dsimp only [start, names, ar, List.length_cons, List.length_nil, Nat.zero_add, Nat.reduceAdd, Nat.reduceSub, Nat.sub_self, List.replicate, List.append_nil, List.cons_append, List.nil_append]
    refine s_ifs ?_; dsimp only [we, wes, wbo, Option.toList, g0, g1, g2, g3, g4, g5, g6, g7, g8, g9, g10, g11, List.set_cons_zero, List.set_cons_succ, onDef, mthQ, methP, asI, asB, slQ, nn, binP, cmpQ, cmpP, subP, bfP, augP, inStr, shorts, Gl.val, tn0, tn1, tn2, tnl0, tnl1, tnl2, tnl3]
    refine i_t (by simp [h1]) ?_
    refine s_ret ?_; dsimp only [we, wes, wbo, Option.toList, g0, g1, g2, g3, g4, g5, g6, g7, g8, g9, g10, g11, List.set_cons_zero, List.set_cons_succ, onDef, mthQ, methP, asI, asB, slQ, nn, binP, cmpQ, cmpP, subP, bfP, augP, inStr, shorts, Gl.val, tn0, tn1, tn2, tnl0, tnl1, tnl2, tnl3]
    refine ⟨by omega, cas0_c (by rw [show cutL x none (some 1) = x.take 1 from rfl, List.length_take]; omega) (by decide) (by decide) ?_⟩
    refine ⟨by omega, szle ?_, ?_⟩
    · have := fm_len [85] (cutL x none (some 1))
      rw [show cutL x none (some 1) = x.take 1 from rfl] at this ⊢
      have h2 : (x.take 1).length ≤ 1 := by rw [List.length_take]; omega
      have h3 : (cutL x (some 1) none).length ≤ x.length := by
        rw [show cutL x (some 1) none = x.drop 1 from rfl, List.length_drop]; omega
      omega
    · dsimp only [seqK, loopK, leave]
      refine .pure hL ?_
      rwa [cas, if_pos h1] at k
  · by_cases h2 : m = [108]
    · refine ⟨⟨rfl, fun L hL => Hold.out ?_⟩⟩; dsimp only [start, names, ar, List.length_cons, List.length_nil, Nat.zero_add, Nat.reduceAdd, Nat.reduceSub, Nat.sub_self, List.replicate, List.append_nil, List.cons_append, List.nil_append]
      refine s_ifs ?_; dsimp only [we, wes, wbo, Option.toList, g0, g1, g2, g3, g4, g5, g6, g7, g8, g9, g10, g11, List.set_cons_zero, List.set_cons_succ, onDef, mthQ, methP, asI, asB, slQ, nn, binP, cmpQ, cmpP, subP, bfP, augP, inStr, shorts, Gl.val, tn0, tn1, tn2, tnl0, tnl1, tnl2, tnl3]
      refine i_f (by simpa using h1) (s_join ?_)
      refine s_ifs ?_; dsimp only [we, wes, wbo, Option.toList, g0, g1, g2, g3, g4, g5, g6, g7, g8, g9, g10, g11, List.set_cons_zero, List.set_cons_succ, onDef, mthQ, methP, asI, asB, slQ, nn, binP, cmpQ, cmpP, subP, bfP, augP, inStr, shorts, Gl.val, tn0, tn1, tn2, tnl0, tnl1, tnl2, tnl3]
      refine i_t (by simp [h2]) ?_
      refine s_ret ?_; dsimp only [we, wes, wbo, Option.toList, g0, g1, g2, g3, g4, g5, g6, g7, g8, g9, g10, g11, List.set_cons_zero, List.set_cons_succ, onDef, mthQ, methP, asI, asB, slQ, nn, binP, cmpQ, cmpP, subP, bfP, augP, inStr, shorts, Gl.val, tn0, tn1, tn2, tnl0, tnl1, tnl2, tnl3]
      refine ⟨by omega, cas0_c (by rw [show cutL x none (some 1) = x.take 1 from rfl, List.length_take]; omega) (by decide) (by decide) ?_⟩
      refine ⟨by omega, szle ?_, ?_⟩
      · have := fm_len [76] (cutL x none (some 1))
        rw [show cutL x none (some 1) = x.take 1 from rfl] at this ⊢
        have h2 : (x.take 1).length ≤ 1 := by rw [List.length_take]; omega
        have h3 : (cutL x (some 1) none).length ≤ x.length := by
          rw [show cutL x (some 1) none = x.drop 1 from rfl, List.length_drop]; omega
        omega
      · dsimp only [seqK, loopK, leave]
        refine .pure hL ?_
        rwa [cas, if_neg h1, if_pos h2] at k
    · exact cas0_c hz h1 h2 (by rwa [cas, if_neg h1, if_neg h2] at k)
end

end Mine
end
section
open PySem PySem.W PySem.Calls PyProof.Rows
set_option Elab.async false
set_option maxRecDepth 8000
set_option maxHeartbeats 2000000
set_option linter.all false
namespace Mine
open Builtin Builtin.Str StrLaws
theorem occ_full (s sub : Str) (hi : Nat) : ∀ (l : List Nat) (st : Array Nat × Nat), 1 ≤ st.fst.size → (forIn l st (occBody s sub hi 1)).run.fst = st.fst
  | [], st, _ => rfl
  | a :: l, st, h => by
    rw [List.forIn_cons]
    unfold occBody
    rw [if_neg (by intro q; omega)]
    exact occ_full s sub hi l _ h
theorem occ1 (x : Str) (c : Nat) : ∀ (k a free : Nat), free ≤ a → (forIn (List.range' a k) ((#[] : Array Nat), free) (occBody x ⟨#[c]⟩ x.length 1)).run.fst.toList = match ((x.cps.toList.drop a).take k).findIdx? (· == c) with
    | some j => [a + j]
    | none => []
  | 0, a, free, hf => by simp
  | k + 1, a, free, hf => by
    rw [List.range'_succ, List.forIn_cons]
    have hs := subAt_one x c a
    unfold occBody
    by_cases hc : x.cps.toList[a]? = some c
    · obtain ⟨h1, h2⟩ := hs.mpr hc
      rw [if_pos ⟨⟨⟨by simp, hf⟩, h1⟩, h2⟩]
      show (forIn (List.range' (a + 1) k) ((#[] : Array Nat).push a, a + (⟨#[c]⟩ : Str).length) (occBody x ⟨#[c]⟩ x.length 1)).run.fst.toList = _
      rw [occ_full _ _ _ _ _ (by simp)]
      obtain ⟨hl, he⟩ := List.getElem?_eq_some_iff.mp hc
      rw [List.drop_eq_getElem_cons hl, he, List.take_succ_cons, List.findIdx?_cons]
      simp
    · rw [if_neg (fun q => hc (hs.mp ⟨q.1.2, q.2⟩))]
      show (forIn (List.range' (a + 1) k) ((#[] : Array Nat), free) (occBody x ⟨#[c]⟩ x.length 1)).run.fst.toList = _
      rw [occ1 x c k (a + 1) free (by omega)]
      by_cases hl : a < x.cps.toList.length
      · rw [List.drop_eq_getElem_cons hl, List.take_succ_cons, List.findIdx?_cons]
        have : (x.cps.toList[a] == c) = false := by
          rw [beq_eq_false_iff_ne]; rintro e; exact hc (by rw [List.getElem?_eq_getElem hl, e])
        rw [this]
        cases ((x.cps.toList.drop (a + 1)).take k).findIdx? (· == c) with
        | none => rfl
        | some j => simp; omega
      · rw [List.drop_eq_nil_of_le (by omega), List.drop_eq_nil_of_le (by omega)]
        simp
theorem occ_first (x : Str) (c lo : Nat) : occurrences x ⟨#[c]⟩ lo x.length 1 = match (x.cps.toList.drop lo).findIdx? (· == c) with
    | some j => [lo + j]
    | none => [] := by
  rw [occ_eq, occ1 x c _ lo lo (Nat.le_refl _), List.take_of_length_le]
  rw [List.length_drop]
  show x.cps.toList.length - lo ≤ x.length + 1 - lo
  simp [Str.length]
  omega
theorem fnd_eq (x : List Nat) (c : Nat) : fnd x [c] = match x.findIdx? (· == c) with
    | some j => (j : Int)
    | none => -1 := by
  unfold fnd Txt.find
  have := occ_first ⟨x.toArray⟩ c 0
  rw [show (⟨[c].toArray⟩ : Str) = ⟨#[c]⟩ from rfl, this]
  simp only [List.drop_zero]
  cases x.findIdx? (· == c) <;> simp
theorem fnd3_eq (x : List Nat) (c a : Nat) (h : a ≤ x.length) : fnd3 x [c] a = match (x.drop a).findIdx? (· == c) with
    | some j => ((a + j : Nat) : Int)
    | none => -1 := by
  unfold fnd3 Txt.find3
  have e : fromIndex (⟨x.toArray⟩ : Str).length (a : Int) = a := by
    show (max 0 (if (a : Int) < 0 then _ else (a : Int))).toNat = a
    rw [if_neg (by omega)]
    omega
  rw [e, show (⟨[c].toArray⟩ : Str) = ⟨#[c]⟩ from rfl, occ_first]
  cases q : (x.drop a).findIdx? (· == c) <;> simp [q]

noncomputable abbrev FIG : List Nat := [48, 49, 50, 51, 52, 53, 54, 55, 56, 57, 97, 98, 99, 100, 101, 102]
noncomputable def digs (b : Int) : Nat → List Nat → Int → Option (Int × Nat)
  | 0, _, v => some (v, 0)
  | _ + 1, [], v => some (v, 0)
  | m + 1, c :: r, v => if c < 128 then (if fnd FIG [lowC c] < 0 ∨ b ≤ fnd FIG [lowC c] then some (v, 0) else if v.natAbs < 2 ^ 32 then (digs b m r (v * b + fnd FIG [lowC c])).map (fun z => (z.1, z.2 + 1)) else none) else none
section
variable {n : Nat} {O : MH} {K : V → MH → Prop} {E : Int → MH → Prop}
theorem digits_c {t : List Nat} {a m k : Nat} {b v : Int} (hb : b.natAbs < 2 ^ 32) (h : digs b m (t.drop a) 0 = some (v, k)) (kk : K (.tup [.int v, .int ((a + k : Nat) : Int)]) O) : Hold (CC (n + 1) .digits_value [.str t, .int a, .int m, .int b] O K E) := by
  refine ⟨⟨rfl, fun L hL => Hold.out ?_⟩⟩; dsimp only [start, names, ar, List.length_cons, List.length_nil, Nat.zero_add, Nat.reduceAdd, Nat.reduceSub, Nat.sub_self, List.replicate, List.append_nil, List.cons_append, List.nil_append]
  refine s_assign ?_; dsimp only [we, wes, wbo, Option.toList, g0, g1, g2, g3, g4, g5, g6, g7, g8, g9, g10, g11, List.set_cons_zero, List.set_cons_succ, onDef, mthQ, methP, asI, asB, slQ, nn, binP, cmpQ, cmpP, subP, bfP, augP, inStr, shorts, Gl.val, tn0, tn1, tn2, tnl0, tnl1, tnl2, tnl3]
  refine s_assign ?_; dsimp only [we, wes, wbo, Option.toList, g0, g1, g2, g3, g4, g5, g6, g7, g8, g9, g10, g11, List.set_cons_zero, List.set_cons_succ, onDef, mthQ, methP, asI, asB, slQ, nn, binP, cmpQ, cmpP, subP, bfP, augP, inStr, shorts, Gl.val, tn0, tn1, tn2, tnl0, tnl1, tnl2, tnl3]
  refine s_while (fun q σ O' => ∃ (j : Nat) (u : Int) (dg : V), σ = [.str t, .int a, .int m, .int b, .int u, .int ((a + j : Nat) : Int), dg] ∧ O' = upd O L .frame ∧ q = m - j ∧ j ≤ m ∧ j ≤ k ∧ digs b (m - j) (t.drop (a + j)) u = some (v, k - j)) m ⟨0, 0, .undef, rfl, rfl, rfl, by omega, by omega, h⟩ ?_
  rintro q σ O' ⟨j, u, dg, rfl, rfl, rfl, hjm, hjk, hd⟩
  have out : k - j = 0 → u = v → Hold (wsb (CC n) d_digits_value_6 [.str t, .int a, .int m, .int b, .int u, .int ((a + j : Nat) : Int), dg] (upd O L .frame) (leave O L K) (Gone O L E)) := fun h1 h2 => by
    refine s_ret ?_; dsimp only [we, wes, wbo, Option.toList, g0, g1, g2, g3, g4, g5, g6, g7, g8, g9, g10, g11, List.set_cons_zero, List.set_cons_succ, onDef, mthQ, methP, asI, asB, slQ, nn, binP, cmpQ, cmpP, subP, bfP, augP, inStr, shorts, Gl.val, tn0, tn1, tn2, tnl0, tnl1, tnl2, tnl3]
    dsimp only [seqK, loopK, leave]
    refine .pure hL ?_
    rw [h2, show a + j = a + k by omega]
    exact kk
  by_cases hl : a + j < t.length
  · have h1 : decide (((a + j : Nat) : Int) < (t.length : Int)) = true := decide_eq_true (by omega)
    dsimp only [we, wes, wbo, Option.toList, g0, g1, g2, g3, g4, g5, g6, g7, g8, g9, g10, g11, List.set_cons_zero, List.set_cons_succ, onDef, mthQ, methP, asI, asB, slQ, nn, binP, cmpQ, cmpP, subP, bfP, augP, inStr, shorts, Gl.val, tn0, tn1, tn2, tnl0, tnl1, tnl2, tnl3]
    rw [h1]
    refine i_f rfl ?_
    by_cases hm : j < m
    · have h2 : decide (((a + j : Nat) : Int) < (a : Int) + (m : Int)) = true := decide_eq_true (by omega)
      rw [h2]
      refine i_f rfl (i_t rfl ?_)
      have hx : t[a + j]? = some t[a + j] := List.getElem?_eq_getElem hl
      have hdrop : t.drop (a + j) = t[a + j] :: t.drop (a + j + 1) := List.drop_eq_getElem_cons hl
      generalize t[a + j] = x at hx hdrop
      rw [hdrop, show m - j = (m - j - 1) + 1 by omega] at hd
      unfold digs at hd
      by_cases hc : x < 128
      · rw [if_pos hc] at hd
        refine s_assign ?_; dsimp only [we, wes, wbo, Option.toList, g0, g1, g2, g3, g4, g5, g6, g7, g8, g9, g10, g11, List.set_cons_zero, List.set_cons_succ, onDef, mthQ, methP, asI, asB, slQ, nn, binP, cmpQ, cmpP, subP, bfP, augP, inStr, shorts, Gl.val, tn0, tn1, tn2, tnl0, tnl1, tnl2, tnl3]
        refine ⟨by omega, x, hx, hc, ?_⟩
        generalize fnd FIG [lowC x] = d at hd ⊢
        refine s_ifs ?_; dsimp only [we, wes, wbo, Option.toList, g0, g1, g2, g3, g4, g5, g6, g7, g8, g9, g10, g11, List.set_cons_zero, List.set_cons_succ, onDef, mthQ, methP, asI, asB, slQ, nn, binP, cmpQ, cmpP, subP, bfP, augP, inStr, shorts, Gl.val, tn0, tn1, tn2, tnl0, tnl1, tnl2, tnl3]
        by_cases hq : d < 0 ∨ b ≤ d
        · rw [if_pos hq] at hd
          have hd := Option.some.inj hd
          have hend : Hold (wsb (CC n) d_digits_value_6 [.str t, .int a, .int m, .int b, .int u, .int ((a + j : Nat) : Int), .int d] (upd O L .frame) (leave O L K) (Gone O L E)) := by
            refine s_ret ?_; dsimp only [we, wes, wbo, Option.toList, g0, g1, g2, g3, g4, g5, g6, g7, g8, g9, g10, g11, List.set_cons_zero, List.set_cons_succ, onDef, mthQ, methP, asI, asB, slQ, nn, binP, cmpQ, cmpP, subP, bfP, augP, inStr, shorts, Gl.val, tn0, tn1, tn2, tnl0, tnl1, tnl2, tnl3]
            dsimp only [seqK, loopK, leave]
            refine .pure hL ?_
            have e1 := congrArg Prod.fst hd
            have e2 := congrArg Prod.snd hd
            dsimp only at e1 e2
            rw [e1, show a + j = a + k by omega]
            exact kk
          have hbrk : Hold (wsb (CC n) d_digits_value_1 [.str t, .int a, .int m, .int b, .int u, .int ((a + j : Nat) : Int), .int d] (upd O L .frame) (seqK (CC n) d_digits_value_3 (loopK (fun σ' O' => ∃ m', m' < m - j ∧ ∃ (j : Nat) (u : Int) (dg : V), σ' = [.str t, .int a, .int m, .int b, .int u, .int ((a + j : Nat) : Int), dg] ∧ O' = upd O L .frame ∧ m' = m - j ∧ j ≤ m ∧ j ≤ k ∧ digs b (m - j) (t.drop (a + j)) u = some (v, k - j))
              (seqK (CC n) d_digits_value_6 (leave O L K) (Gone O L E))) (Gone O L E)) (Gone O L E)) := by
            refine s_brk ?_
            dsimp only [seqK, loopK, leave]
            exact hend
          by_cases hq1 : d < 0
          · have := decide_eq_true hq1
            exact i_t this (i_t this hbrk)
          · have h3 := decide_eq_false hq1
            have h4 : decide (d ≥ b) = true := decide_eq_true (by omega)
            exact i_f h3 (i_t h4 (i_t h4 hbrk))
        · rw [if_neg hq] at hd
          have h3 : decide (d < 0) = false := decide_eq_false (by omega)
          have h4 : decide (d ≥ b) = false := decide_eq_false (by omega)
          refine i_f h3 (i_f h4 (i_f h4 (s_join ?_)))
          by_cases hu : u.natAbs < 2 ^ 32
          · rw [if_pos hu] at hd
            obtain ⟨⟨v', k'⟩, hd', e⟩ := Option.map_eq_some_iff.mp hd
            have e1 := congrArg Prod.fst e
            have e2 := congrArg Prod.snd e
            dsimp only at e1 e2
            refine s_assign ?_; dsimp only [we, wes, wbo, Option.toList, g0, g1, g2, g3, g4, g5, g6, g7, g8, g9, g10, g11, List.set_cons_zero, List.set_cons_succ, onDef, mthQ, methP, asI, asB, slQ, nn, binP, cmpQ, cmpP, subP, bfP, augP, inStr, shorts, Gl.val, tn0, tn1, tn2, tnl0, tnl1, tnl2, tnl3]
            refine ⟨hu, hb, ?_⟩
            refine s_aug ?_; dsimp only [we, wes, wbo, Option.toList, g0, g1, g2, g3, g4, g5, g6, g7, g8, g9, g10, g11, List.set_cons_zero, List.set_cons_succ, onDef, mthQ, methP, asI, asB, slQ, nn, binP, cmpQ, cmpP, subP, bfP, augP, inStr, shorts, Gl.val, tn0, tn1, tn2, tnl0, tnl1, tnl2, tnl3]
            refine s_nil ?_
            dsimp only [seqK, loopK, leave]
            exact ⟨_, by omega, j + 1, u * b + d, .int d, rfl, rfl, rfl, by omega, by omega, by rw [show m - (j + 1) = m - j - 1 by omega, show a + (j + 1) = a + j + 1 by omega, hd', e1, show k' = k - (j + 1) by omega]⟩
          · rw [if_neg hu] at hd; cases hd
      · rw [if_neg hc] at hd; cases hd
    · have h2 : decide (((a + j : Nat) : Int) < (a : Int) + (m : Int)) = false := decide_eq_false (by omega)
      rw [h2]
      rw [show m - j = 0 by omega] at hd
      unfold digs at hd
      have hd := Option.some.inj hd
      have e1 := congrArg Prod.fst hd
      have e2 := congrArg Prod.snd hd
      dsimp only at e1 e2
      first
        | exact i_t rfl (i_f rfl (out (by omega) e1))
        | exact i_f rfl (i_f rfl (out (by omega) e1))
  · have h1 : decide (((a + j : Nat) : Int) < (t.length : Int)) = false := decide_eq_false (by omega)
    dsimp only [we, wes, wbo, Option.toList, g0, g1, g2, g3, g4, g5, g6, g7, g8, g9, g10, g11, List.set_cons_zero, List.set_cons_succ, onDef, mthQ, methP, asI, asB, slQ, nn, binP, cmpQ, cmpP, subP, bfP, augP, inStr, shorts, Gl.val, tn0, tn1, tn2, tnl0, tnl1, tnl2, tnl3]
    rw [h1]
    rw [List.drop_eq_nil_of_le (by omega)] at hd
    have hd : (u, 0) = (v, k - j) := by
      cases q : m - j with
      | zero => rw [q] at hd; unfold digs at hd; exact Option.some.inj hd
      | succ q' => rw [q] at hd; unfold digs at hd; exact Option.some.inj hd
    have e1 := congrArg Prod.fst hd
    have e2 := congrArg Prod.snd hd
    dsimp only at e1 e2
    exact i_t rfl (i_f rfl (out (by omega) e1))
theorem coded_c {c : Int} (h0 : 0 ≤ c) (h1 : c ≤ 1114111) (k : K (.str [c.toNat]) O) : Hold (CC (n + 1) .coded_sign [.int c] O K E) := by
  refine ⟨⟨rfl, fun L hL => Hold.out ?_⟩⟩; dsimp only [start, names, ar, List.length_cons, List.length_nil, Nat.zero_add, Nat.reduceAdd, Nat.reduceSub, Nat.sub_self, List.replicate, List.append_nil, List.cons_append, List.nil_append]
  refine s_ifs ?_; dsimp only [we, wes, wbo, Option.toList, g0, g1, g2, g3, g4, g5, g6, g7, g8, g9, g10, g11, List.set_cons_zero, List.set_cons_succ, onDef, mthQ, methP, asI, asB, slQ, nn, binP, cmpQ, cmpP, subP, bfP, augP, inStr, shorts, Gl.val, tn0, tn1, tn2, tnl0, tnl1, tnl2, tnl3]
  refine i_f (decide_eq_false (by omega)) (s_join ?_)
  refine s_ret ?_; dsimp only [we, wes, wbo, Option.toList, g0, g1, g2, g3, g4, g5, g6, g7, g8, g9, g10, g11, List.set_cons_zero, List.set_cons_succ, onDef, mthQ, methP, asI, asB, slQ, nn, binP, cmpQ, cmpP, subP, bfP, augP, inStr, shorts, Gl.val, tn0, tn1, tn2, tnl0, tnl1, tnl2, tnl3]
  exact ⟨h0, h1, .pure hL k⟩
theorem braced_c {t : List Nat} {a j k : Nat} {b v : Int} (ha : a ≤ t.length) (hb : b.natAbs < 2 ^ 32) (hj : (t.drop a).findIdx? (· == 125) = some j) (hd : digs b 8 ((t.take (a + j)).drop (a + 1)) 0 = some (v, k)) (h0 : 0 ≤ v) (h1 : v ≤ 1114111)
    (kk : K (.tup [.str [v.toNat], .int ((a + j + 1 : Nat) : Int)]) O) : Hold (CC (n + 2) .braced_code [.str t, .int a, .int b] O K E) := by
  refine ⟨⟨rfl, fun L hL => Hold.out ?_⟩⟩; dsimp only [start, names, ar, List.length_cons, List.length_nil, Nat.zero_add, Nat.reduceAdd, Nat.reduceSub, Nat.sub_self, List.replicate, List.append_nil, List.cons_append, List.nil_append]
  refine s_assign ?_; dsimp only [we, wes, wbo, Option.toList, g0, g1, g2, g3, g4, g5, g6, g7, g8, g9, g10, g11, List.set_cons_zero, List.set_cons_succ, onDef, mthQ, methP, asI, asB, slQ, nn, binP, cmpQ, cmpP, subP, bfP, augP, inStr, shorts, Gl.val, tn0, tn1, tn2, tnl0, tnl1, tnl2, tnl3]
  rw [fnd3_eq t 125 a ha, hj]
  dsimp only
  refine s_ifs ?_; dsimp only [we, wes, wbo, Option.toList, g0, g1, g2, g3, g4, g5, g6, g7, g8, g9, g10, g11, List.set_cons_zero, List.set_cons_succ, onDef, mthQ, methP, asI, asB, slQ, nn, binP, cmpQ, cmpP, subP, bfP, augP, inStr, shorts, Gl.val, tn0, tn1, tn2, tnl0, tnl1, tnl2, tnl3]
  refine i_f (decide_eq_false (Int.not_lt.mpr (Int.natCast_nonneg _))) (s_join ?_)
  refine s_unpack ?_; dsimp only [we, wes, wbo, Option.toList, g0, g1, g2, g3, g4, g5, g6, g7, g8, g9, g10, g11, List.set_cons_zero, List.set_cons_succ, onDef, mthQ, methP, asI, asB, slQ, nn, binP, cmpQ, cmpP, subP, bfP, augP, inStr, shorts, Gl.val, tn0, tn1, tn2, tnl0, tnl1, tnl2, tnl3]
  refine ⟨Int.natCast_nonneg _, ?_⟩
  refine digits_c (a := a + 1) (m := 8) hb hd ?_
  dsimp only
  refine s_ret ?_; dsimp only [we, wes, wbo, Option.toList, g0, g1, g2, g3, g4, g5, g6, g7, g8, g9, g10, g11, List.set_cons_zero, List.set_cons_succ, onDef, mthQ, methP, asI, asB, slQ, nn, binP, cmpQ, cmpP, subP, bfP, augP, inStr, shorts, Gl.val, tn0, tn1, tn2, tnl0, tnl1, tnl2, tnl3]
  refine coded_c h0 h1 ?_
  dsimp only [seqK, loopK, leave]
  exact .pure hL kk
end

end Mine
end
section
open PySem PySem.W PySem.Calls PyProof.Rows
set_option Elab.async false
set_option maxRecDepth 8000
set_option maxHeartbeats 2000000
set_option linter.all false
namespace Mine
noncomputable def inT (v : Int) : Bool := decide (0 ≤ v) && decide (v ≤ 1114111)
noncomputable def brc (b : Int) (r : List Nat) (off : Nat) : Option (List Nat × Nat) := match r.findIdx? (· == 125) with
  | none => none
  | some j => match digs b 8 ((r.take j).drop 1) 0 with
    | none => none
    | some z => if inT z.1 = true then some ([z.1.toNat], off + j + 1) else none
noncomputable def dgs (b : Int) (m : Nat) (r : List Nat) (off : Nat) : Option (List Nat × Nat) := match digs b m r 0 with
  | none => none
  | some z => if inT z.1 = true then some ([z.1.toNat], off + z.2) else none
noncomputable def escC (r2 : List Nat) : Option (List Nat × Nat) := match r2 with
  | c :: _ => if inT (Builtin.bitXor (upC c) 64) = true then some ([(Builtin.bitXor (upC c) 64).toNat], 3) else none
  | [] => some ([99], 2)
noncomputable def esc (r : List Nat) : Option (List Nat × Nat) := match r with
  | [] => some ([92], 1)
  | s :: r2 => match look shortsL [s] with
    | some v => some (v, 2)
    | none =>
      if s ∈ [48, 49, 50, 51, 52, 53, 54, 55] then dgs 8 3 (s :: r2) 1
      else if s = 120 ∧ r2.take 1 = [123] then brc 16 r2 2
      else if s = 111 ∧ r2.take 1 = [123] then brc 8 r2 2
      else if s = 120 then dgs 16 2 r2 2
      else if s = 78 ∧ r2.take 3 = [123, 85, 43] then brc 16 (r2.drop 2) 4
      else if s = 99 then escC r2 else some ([s], 2)
theorem inT_ok {v : Int} (h : inT v = true) : 0 ≤ v ∧ v ≤ 1114111 := by simpa [inT] using h
theorem cutD (t : List Nat) (a b : Nat) : cutL t (some ((a : Nat) : Int)) (some ((b : Nat) : Int)) = (t.drop a).take (b - a) := by
  show (t.take b).drop a = _
  rw [List.drop_take]
theorem cut23 (t : List Nat) (a : Nat) : cutL t (some ((a : Int) + 2)) (some ((a : Int) + 3)) = (t.drop (a + 2)).take 1 := by
  have h := cutD t (a + 2) (a + 3)
  rw [show a + 3 - (a + 2) = 1 by omega] at h
  exact h
theorem cut25 (t : List Nat) (a : Nat) : cutL t (some ((a : Int) + 2)) (some ((a : Int) + 5)) = (t.drop (a + 2)).take 3 := by
  have h := cutD t (a + 2) (a + 5)
  rw [show a + 5 - (a + 2) = 3 by omega] at h
  exact h
theorem and_step2 {X Y : Prop} {p q : Bool} {A B : Prop} (x : X) (y : Y) (h : if (p && q) = true then A else B) : if (!p) = true then (if p = true then A else B) else (X ∧ Y ∧ (if (!q) = true then (if q = true then A else B) else (if q = true then A else B))) := by
  cases p with
  | false => exact i_t rfl (by simpa using h)
  | true => exact i_f rfl ⟨x, y, by cases q <;> simpa using h⟩
theorem and_step {p q : Bool} {A B : Prop} (h : if (p && q) = true then A else B) : if (!p) = true then (if p = true then A else B) else (if (!q) = true then (if q = true then A else B) else (if q = true then A else B)) := by
  cases p <;> cases q <;> simpa using h
section
variable {n : Nat} {O : MH} {K : V → MH → Prop} {E : Int → MH → Prop}
theorem brc_c {t : List Nat} {a off k : Nat} {b : Int} {x : List Nat} (ha : a + off ≤ t.length) (hb : b.natAbs < 2 ^ 32) (h : brc b (t.drop (a + off)) off = some (x, k)) (kk : K (.tup [.str x, .int ((a + k : Nat) : Int)]) O) : Hold (CC (n + 2) .braced_code [.str t, .int ((a + off : Nat) : Int), .int b] O K E) := by
  unfold brc at h
  cases hj : (t.drop (a + off)).findIdx? (· == 125) with
  | none => rw [hj] at h; cases h
  | some j =>
    rw [hj] at h
    dsimp only at h
    cases hd : digs b 8 (((t.drop (a + off)).take j).drop 1) 0 with
    | none => rw [hd] at h; cases h
    | some z =>
      rw [hd] at h
      dsimp only at h
      split at h
      · rename_i hi
        cases h
        obtain ⟨h0, h1⟩ := inT_ok hi
        refine braced_c (v := z.1) (k := z.2) ha hb hj ?_ h0 h1 ?_
        · rw [List.drop_take, List.drop_drop] at hd
          rw [List.drop_take, show a + off + j - (a + off + 1) = j - 1 by omega]
          exact hd
        · rw [show a + off + j + 1 = a + (off + j + 1) by omega]
          exact kk
      · cases h
theorem esc_c {t : List Nat} {a k : Nat} {x : List Nat} (ha : a < t.length) (h : esc (t.drop (a + 1)) = some (x, k)) (kk : K (.tup [.str x, .int ((a + k : Nat) : Int)]) O) : Hold (CC (n + 3) .escape_at [.str t, .int a] O K E) := by
  refine ⟨⟨rfl, fun L hL => Hold.out ?_⟩⟩; dsimp only [start, names, ar, List.length_cons, List.length_nil, Nat.zero_add, Nat.reduceAdd, Nat.reduceSub, Nat.sub_self, List.replicate, List.append_nil, List.cons_append, List.nil_append]
  refine s_assign ?_; dsimp only [we, wes, wbo, Option.toList, g0, g1, g2, g3, g4, g5, g6, g7, g8, g9, g10, g11, List.set_cons_zero, List.set_cons_succ, onDef, mthQ, methP, asI, asB, slQ, nn, binP, cmpQ, cmpP, subP, bfP, augP, inStr, shorts, Gl.val, tn0, tn1, tn2, tnl0, tnl1, tnl2, tnl3]
  rw [cut12]
  refine ⟨by omega, by omega, ?_⟩
  cases hs : t[a + 1]? with
  | none =>
    have : t.length ≤ a + 1 := by simpa using hs
    rw [List.drop_eq_nil_of_le this] at h
    cases h
    refine s_ifs ?_; dsimp only [we, wes, wbo, Option.toList, g0, g1, g2, g3, g4, g5, g6, g7, g8, g9, g10, g11, List.set_cons_zero, List.set_cons_succ, onDef, mthQ, methP, asI, asB, slQ, nn, binP, cmpQ, cmpP, subP, bfP, augP, inStr, shorts, Gl.val, tn0, tn1, tn2, tnl0, tnl1, tnl2, tnl3]
    refine i_t rfl ?_
    refine s_ret ?_; dsimp only [we, wes, wbo, Option.toList, g0, g1, g2, g3, g4, g5, g6, g7, g8, g9, g10, g11, List.set_cons_zero, List.set_cons_succ, onDef, mthQ, methP, asI, asB, slQ, nn, binP, cmpQ, cmpP, subP, bfP, augP, inStr, shorts, Gl.val, tn0, tn1, tn2, tnl0, tnl1, tnl2, tnl3]
    exact .pure hL kk
  | some s =>
    have hl : a + 1 < t.length := (List.getElem?_eq_some_iff.mp hs).1
    have hdrop : t.drop (a + 1) = s :: t.drop (a + 2) := by
      rw [List.drop_eq_getElem_cons hl, (List.getElem?_eq_some_iff.mp hs).2]
    rw [hdrop] at h
    unfold esc at h
    dsimp only at h
    refine s_ifs ?_; dsimp only [we, wes, wbo, Option.toList, g0, g1, g2, g3, g4, g5, g6, g7, g8, g9, g10, g11, List.set_cons_zero, List.set_cons_succ, onDef, mthQ, methP, asI, asB, slQ, nn, binP, cmpQ, cmpP, subP, bfP, augP, inStr, shorts, Gl.val, tn0, tn1, tn2, tnl0, tnl1, tnl2, tnl3]
    refine i_f (by simp) (s_join ?_)
    refine s_ifs ?_; dsimp only [we, wes, wbo, Option.toList, g0, g1, g2, g3, g4, g5, g6, g7, g8, g9, g10, g11, List.set_cons_zero, List.set_cons_succ, onDef, mthQ, methP, asI, asB, slQ, nn, binP, cmpQ, cmpP, subP, bfP, augP, inStr, shorts, Gl.val, tn0, tn1, tn2, tnl0, tnl1, tnl2, tnl3]
    cases hk : look shortsL [s] with
    | some v =>
      rw [hk] at h
      cases h
      refine i_t rfl ?_
      refine s_ret ?_; dsimp only [we, wes, wbo, Option.toList, g0, g1, g2, g3, g4, g5, g6, g7, g8, g9, g10, g11, List.set_cons_zero, List.set_cons_succ, onDef, mthQ, methP, asI, asB, slQ, nn, binP, cmpQ, cmpP, subP, bfP, augP, inStr, shorts, Gl.val, tn0, tn1, tn2, tnl0, tnl1, tnl2, tnl3]
      exact ⟨_, hk, .pure hL kk⟩
    | none =>
      rw [hk] at h
      dsimp only at h
      refine i_f rfl (s_join ?_)
      refine s_ifs ?_; dsimp only [we, wes, wbo, Option.toList, g0, g1, g2, g3, g4, g5, g6, g7, g8, g9, g10, g11, List.set_cons_zero, List.set_cons_succ, onDef, mthQ, methP, asI, asB, slQ, nn, binP, cmpQ, cmpP, subP, bfP, augP, inStr, shorts, Gl.val, tn0, tn1, tn2, tnl0, tnl1, tnl2, tnl3]
      refine ⟨_, rfl, ?_⟩
      by_cases h1 : s ∈ [48, 49, 50, 51, 52, 53, 54, 55]
      · rw [if_pos h1] at h
        refine i_t (decide_eq_true h1) ?_
        unfold dgs at h
        cases hd : digs 8 3 (s :: t.drop (a + 2)) 0 with
        | none => rw [hd] at h; cases h
        | some z =>
          rw [hd] at h
          dsimp only at h
          split at h
          · rename_i hi
            cases h
            obtain ⟨h0, h2⟩ := inT_ok hi
            refine s_unpack ?_; dsimp only [we, wes, wbo, Option.toList, g0, g1, g2, g3, g4, g5, g6, g7, g8, g9, g10, g11, List.set_cons_zero, List.set_cons_succ, onDef, mthQ, methP, asI, asB, slQ, nn, binP, cmpQ, cmpP, subP, bfP, augP, inStr, shorts, Gl.val, tn0, tn1, tn2, tnl0, tnl1, tnl2, tnl3]
            refine digits_c (a := a + 1) (m := 3) (b := 8) (by decide) (by rw [hdrop]; exact hd) ?_
            dsimp only
            refine s_ret ?_; dsimp only [we, wes, wbo, Option.toList, g0, g1, g2, g3, g4, g5, g6, g7, g8, g9, g10, g11, List.set_cons_zero, List.set_cons_succ, onDef, mthQ, methP, asI, asB, slQ, nn, binP, cmpQ, cmpP, subP, bfP, augP, inStr, shorts, Gl.val, tn0, tn1, tn2, tnl0, tnl1, tnl2, tnl3]
            dsimp only [seqK, loopK, leave]
            exact ⟨h0, h2, .pure hL (by rw [show a + 1 + z.2 = a + (1 + z.2) by omega]; exact kk)⟩
          · cases h
      · rw [if_neg h1] at h
        refine i_f (decide_eq_false h1) (s_join ?_)
        generalize hr2 : t.drop (a + 2) = r2 at h
        refine s_ifs ?_; dsimp only [we, wes, wbo, Option.toList, g0, g1, g2, g3, g4, g5, g6, g7, g8, g9, g10, g11, List.set_cons_zero, List.set_cons_succ, onDef, mthQ, methP, asI, asB, slQ, nn, binP, cmpQ, cmpP, subP, bfP, augP, inStr, shorts, Gl.val, tn0, tn1, tn2, tnl0, tnl1, tnl2, tnl3]
        rw [cut23, hr2]
        refine and_step2 (by omega) (by omega) (p := [s] == [120]) (q := r2.take 1 == [123]) ?_
        by_cases h2 : s = 120 ∧ r2.take 1 = [123]
        · rw [if_pos h2] at h
          refine i_t (by simp [h2.1, h2.2]) ?_
          refine s_ret ?_; dsimp only [we, wes, wbo, Option.toList, g0, g1, g2, g3, g4, g5, g6, g7, g8, g9, g10, g11, List.set_cons_zero, List.set_cons_succ, onDef, mthQ, methP, asI, asB, slQ, nn, binP, cmpQ, cmpP, subP, bfP, augP, inStr, shorts, Gl.val, tn0, tn1, tn2, tnl0, tnl1, tnl2, tnl3]
          exact brc_c (off := 2) (by omega) (by decide) (by rw [hr2]; exact h) (.pure hL kk)
        · rw [if_neg h2] at h
          refine i_f ?_ (s_join ?_)
          · rw [Bool.eq_false_iff]; intro q; simp at q; exact h2 q
          refine s_ifs ?_; dsimp only [we, wes, wbo, Option.toList, g0, g1, g2, g3, g4, g5, g6, g7, g8, g9, g10, g11, List.set_cons_zero, List.set_cons_succ, onDef, mthQ, methP, asI, asB, slQ, nn, binP, cmpQ, cmpP, subP, bfP, augP, inStr, shorts, Gl.val, tn0, tn1, tn2, tnl0, tnl1, tnl2, tnl3]
          rw [cut23, hr2]
          refine and_step2 (by omega) (by omega) (p := [s] == [111]) (q := r2.take 1 == [123]) ?_
          by_cases h3 : s = 111 ∧ r2.take 1 = [123]
          · rw [if_pos h3] at h
            refine i_t (by simp [h3.1, h3.2]) ?_
            refine s_ret ?_; dsimp only [we, wes, wbo, Option.toList, g0, g1, g2, g3, g4, g5, g6, g7, g8, g9, g10, g11, List.set_cons_zero, List.set_cons_succ, onDef, mthQ, methP, asI, asB, slQ, nn, binP, cmpQ, cmpP, subP, bfP, augP, inStr, shorts, Gl.val, tn0, tn1, tn2, tnl0, tnl1, tnl2, tnl3]
            exact brc_c (off := 2) (by omega) (by decide) (by rw [hr2]; exact h) (.pure hL kk)
          · rw [if_neg h3] at h
            refine i_f ?_ (s_join ?_)
            · rw [Bool.eq_false_iff]; intro q; simp at q; exact h3 q
            refine s_ifs ?_; dsimp only [we, wes, wbo, Option.toList, g0, g1, g2, g3, g4, g5, g6, g7, g8, g9, g10, g11, List.set_cons_zero, List.set_cons_succ, onDef, mthQ, methP, asI, asB, slQ, nn, binP, cmpQ, cmpP, subP, bfP, augP, inStr, shorts, Gl.val, tn0, tn1, tn2, tnl0, tnl1, tnl2, tnl3]
            by_cases h4 : s = 120
            · rw [if_pos h4] at h
              refine i_t (by simp [h4]) ?_
              unfold dgs at h
              cases hd : digs 16 2 r2 0 with
              | none => rw [hd] at h; cases h
              | some z =>
                rw [hd] at h
                dsimp only at h
                split at h
                · rename_i hi
                  cases h
                  obtain ⟨h0, h5⟩ := inT_ok hi
                  refine s_unpack ?_; dsimp only [we, wes, wbo, Option.toList, g0, g1, g2, g3, g4, g5, g6, g7, g8, g9, g10, g11, List.set_cons_zero, List.set_cons_succ, onDef, mthQ, methP, asI, asB, slQ, nn, binP, cmpQ, cmpP, subP, bfP, augP, inStr, shorts, Gl.val, tn0, tn1, tn2, tnl0, tnl1, tnl2, tnl3]
                  refine digits_c (a := a + 2) (m := 2) (b := 16) (by decide) (by rw [hr2]; exact hd) ?_
                  dsimp only
                  refine s_ret ?_; dsimp only [we, wes, wbo, Option.toList, g0, g1, g2, g3, g4, g5, g6, g7, g8, g9, g10, g11, List.set_cons_zero, List.set_cons_succ, onDef, mthQ, methP, asI, asB, slQ, nn, binP, cmpQ, cmpP, subP, bfP, augP, inStr, shorts, Gl.val, tn0, tn1, tn2, tnl0, tnl1, tnl2, tnl3]
                  dsimp only [seqK, loopK, leave]
                  exact ⟨h0, h5, .pure hL (by rw [show a + 2 + z.2 = a + (2 + z.2) by omega]; exact kk)⟩
                · cases h
            · rw [if_neg h4] at h
              refine i_f (by simpa using h4) (s_join ?_)
              refine s_ifs ?_; dsimp only [we, wes, wbo, Option.toList, g0, g1, g2, g3, g4, g5, g6, g7, g8, g9, g10, g11, List.set_cons_zero, List.set_cons_succ, onDef, mthQ, methP, asI, asB, slQ, nn, binP, cmpQ, cmpP, subP, bfP, augP, inStr, shorts, Gl.val, tn0, tn1, tn2, tnl0, tnl1, tnl2, tnl3]
              rw [cut25, hr2]
              refine and_step2 (by omega) (by omega) (p := [s] == [78]) (q := r2.take 3 == [123, 85, 43]) ?_
              by_cases h5 : s = 78 ∧ r2.take 3 = [123, 85, 43]
              · rw [if_pos h5] at h
                refine i_t (by simp [h5.1, h5.2]) ?_
                refine s_ret ?_; dsimp only [we, wes, wbo, Option.toList, g0, g1, g2, g3, g4, g5, g6, g7, g8, g9, g10, g11, List.set_cons_zero, List.set_cons_succ, onDef, mthQ, methP, asI, asB, slQ, nn, binP, cmpQ, cmpP, subP, bfP, augP, inStr, shorts, Gl.val, tn0, tn1, tn2, tnl0, tnl1, tnl2, tnl3]
                have hlen : 3 ≤ r2.length := by
                  have := congrArg List.length h5.2
                  rw [List.length_take] at this
                  simp at this
                  omega
                rw [← hr2, List.length_drop] at hlen
                refine brc_c (off := 4) (by omega) (by decide) ?_ (.pure hL kk)
                rw [← hr2, List.drop_drop] at h
                exact h
              · rw [if_neg h5] at h
                refine i_f ?_ (s_join ?_)
                · rw [Bool.eq_false_iff]; intro q; simp at q; exact h5 q
                refine s_ifs ?_; dsimp only [we, wes, wbo, Option.toList, g0, g1, g2, g3, g4, g5, g6, g7, g8, g9, g10, g11, List.set_cons_zero, List.set_cons_succ, onDef, mthQ, methP, asI, asB, slQ, nn, binP, cmpQ, cmpP, subP, bfP, augP, inStr, shorts, Gl.val, tn0, tn1, tn2, tnl0, tnl1, tnl2, tnl3]
                rw [cut23, hr2]
                refine and_step2 (by omega) (by omega) (p := [s] == [99]) (q := r2.take 1 != []) ?_
                by_cases h6 : s = 99
                · rw [if_pos h6] at h
                  subst h6
                  cases r2 with
                  | nil =>
                    cases h
                    refine i_f rfl (s_join ?_)
                    refine s_ret ?_; dsimp only [we, wes, wbo, Option.toList, g0, g1, g2, g3, g4, g5, g6, g7, g8, g9, g10, g11, List.set_cons_zero, List.set_cons_succ, onDef, mthQ, methP, asI, asB, slQ, nn, binP, cmpQ, cmpP, subP, bfP, augP, inStr, shorts, Gl.val, tn0, tn1, tn2, tnl0, tnl1, tnl2, tnl3]
                    exact .pure hL kk
                  | cons c r3 =>
                    unfold escC at h
                    dsimp only at h
                    cases hi : inT (Builtin.bitXor (upC c) 64) with
                    | false => rw [hi] at h; cases h
                    | true =>
                      rw [hi] at h
                      cases h
                      obtain ⟨h0, h7⟩ := inT_ok hi
                      refine i_t rfl ?_
                      have hc : t[a + 2]? = some c := by
                        rw [show t[a + 2]? = (t.drop (a + 2))[0]? by rw [List.getElem?_drop], hr2]; rfl
                      refine s_ret ?_; dsimp only [we, wes, wbo, Option.toList, g0, g1, g2, g3, g4, g5, g6, g7, g8, g9, g10, g11, List.set_cons_zero, List.set_cons_succ, onDef, mthQ, methP, asI, asB, slQ, nn, binP, cmpQ, cmpP, subP, bfP, augP, inStr, shorts, Gl.val, tn0, tn1, tn2, tnl0, tnl1, tnl2, tnl3]
                      refine ⟨by omega, c, hc, great_c ?_⟩
                      dsimp only [seqK, loopK, leave]
                      exact ⟨h0, h7, .pure hL kk⟩
                · rw [if_neg h6] at h
                  cases h
                  refine i_f (by simp [h6]) (s_join ?_)
                  refine s_ret ?_; dsimp only [we, wes, wbo, Option.toList, g0, g1, g2, g3, g4, g5, g6, g7, g8, g9, g10, g11, List.set_cons_zero, List.set_cons_succ, onDef, mthQ, methP, asI, asB, slQ, nn, binP, cmpQ, cmpP, subP, bfP, augP, inStr, shorts, Gl.val, tn0, tn1, tn2, tnl0, tnl1, tnl2, tnl3]
                  exact .pure hL kk
end

end Mine
end
section
open PySem PySem.W PySem.Calls PyProof.Rows
set_option Elab.async false
set_option maxRecDepth 8000
set_option maxHeartbeats 2000000
set_option linter.all false
namespace Mine
theorem upd2 (O : MH) (a : Addr) (c c' : Cell) : upd (upd O a c) a c' = upd O a c' := by
  funext b
  by_cases h : b = a
  · subst h; rw [upd_self, upd_self]
  · rw [upd_ne _ h, upd_ne _ h, upd_ne _ h]
theorem Back.own {O : MH} {L a : Addr} {c : Cell} {K : V → MH → Prop} {v : V} (h : O L = none) (ha : a ≠ L) (k : K v (upd O a c)) : Back O L K v (upd (upd O L .frame) a c) := by
  refine ⟨upd O a c, fun b => ?_, ?_, fun b hb => ?_, .inl k⟩
  · by_cases q : b = a
    · subst q; right; rw [upd_self, upd_self]
    · rw [upd_ne _ q, upd_ne _ q]
      exact Sub.up h b
  · rw [upd_ne _ (Ne.symm ha)]; exact h
  · by_cases q : b = a
    · subst q; rw [upd_self, upd_self]
    · rw [upd_ne _ q, upd_ne _ q, upd_ne _ (by rintro rfl; exact hb h)]
theorem ne_frame {O : MH} {L a : Addr} (h : upd O L .frame a = none) : a ≠ L ∧ O a = none := by
  have : a ≠ L := by rintro rfl; rw [upd_self] at h; cases h
  rw [upd_ne _ this] at h
  exact ⟨this, h⟩
noncomputable def splitW : List Nat → List Nat → List (List Nat)
  | [], w => if w = [] then [] else [w]
  | c :: r, w => if c ∈ [32, 9, 10, 13, 12] then (if w = [] then splitW r [] else w :: splitW r []) else splitW r (w ++ [c])
theorem splitW_cons (c : Nat) (r w : List Nat) : splitW (c :: r) w = if c ∈ [32, 9, 10, 13, 12] then (if w = [] then splitW r [] else w :: splitW r []) else splitW r (w ++ [c]) := rfl
theorem splitW_nil (w : List Nat) : splitW [] w = if w = [] then [] else [w] := rfl
theorem ung_len (o c : List Nat) (p : Bool) : ∀ t : List Nat, (ung o c p t).length ≤ t.length
  | [] => Nat.le_refl _
  | [x] => Nat.le_refl _
  | x :: f :: r => by
    have h1 := ung_len o c p r
    have h2 := ung_len o c p (f :: r)
    unfold ung
    split
    · split <;> simp <;> omega
    · simp at h2 ⊢; omega
section
variable {n : Nat} {O : MH} {K : V → MH → Prop} {E : Int → MH → Prop}
theorem readqw_c {t : List Nat} (hz : t.length ≤ 100000) (k : ∀ a, O a = none → K (.lst a) (upd O a (.list ((splitW (ung [92] (clo [92]) true t) []).map .str)))) : Hold (CC (n + 3) .read_qw [.str t] O K E) := by
  refine ⟨⟨rfl, fun L hL => Hold.out ?_⟩⟩; dsimp only [start, names, ar, List.length_cons, List.length_nil, Nat.zero_add, Nat.reduceAdd, Nat.reduceSub, Nat.sub_self, List.replicate, List.append_nil, List.cons_append, List.nil_append]
  refine s_assign ?_; dsimp only [we, wes, wbo, Option.toList, g0, g1, g2, g3, g4, g5, g6, g7, g8, g9, g10, g11, List.set_cons_zero, List.set_cons_succ, onDef, mthQ, methP, asI, asB, slQ, nn, binP, cmpQ, cmpP, subP, bfP, augP, inStr, shorts, Gl.val, tn0, tn1, tn2, tnl0, tnl1, tnl2, tnl3]
  intro a ha
  obtain ⟨haL, haO⟩ := ne_frame ha
  refine s_assign ?_; dsimp only [we, wes, wbo, Option.toList, g0, g1, g2, g3, g4, g5, g6, g7, g8, g9, g10, g11, List.set_cons_zero, List.set_cons_succ, onDef, mthQ, methP, asI, asB, slQ, nn, binP, cmpQ, cmpP, subP, bfP, augP, inStr, shorts, Gl.val, tn0, tn1, tn2, tnl0, tnl1, tnl2, tnl3]
  refine s_for ?_
  dsimp only [we, wes, wbo, Option.toList, g0, g1, g2, g3, g4, g5, g6, g7, g8, g9, g10, g11, List.set_cons_zero, List.set_cons_succ, onDef, mthQ, methP, asI, asB, slQ, nn, binP, cmpQ, cmpP, subP, bfP, augP, inStr, shorts, Gl.val, tn0, tn1, tn2, tnl0, tnl1, tnl2, tnl3]
  refine ung_c hz ?_
  have hl := ung_len [92] (clo [92]) true t
  generalize ung [92] (clo [92]) true t = u at k hl
  refine ⟨_, rfl, fun l σ O' => ∃ (r w : List Nat) (ws : List (List Nat)) (sg : V), l = r.map (fun c => V.str [c]) ∧ σ = [.str t, .lst a, .str w, sg] ∧ O' = upd (upd O L .frame) a (.list (ws.map .str)) ∧ ws.length + w.length + r.length ≤ 100000 ∧
    splitW u [] = ws ++ splitW r w, ⟨u, [], [], .undef, rfl, rfl, rfl, by simp; omega, rfl⟩, ?_, ?_⟩
  · rintro v l σ O' ⟨r, w, ws, sg, hl, rfl, rfl, hn, hs⟩
    cases r with
    | nil => cases hl
    | cons c r =>
      cases hl
      rw [List.length_cons] at hn
      rw [splitW_cons] at hs
      refine s_ifs ?_; dsimp only [we, wes, wbo, Option.toList, g0, g1, g2, g3, g4, g5, g6, g7, g8, g9, g10, g11, List.set_cons_zero, List.set_cons_succ, onDef, mthQ, methP, asI, asB, slQ, nn, binP, cmpQ, cmpP, subP, bfP, augP, inStr, shorts, Gl.val, tn0, tn1, tn2, tnl0, tnl1, tnl2, tnl3]
      refine ⟨_, rfl, ?_⟩
      by_cases hc : c ∈ [32, 9, 10, 13, 12]
      · rw [if_pos hc] at hs
        refine i_t (decide_eq_true hc) ?_
        refine s_ifs ?_; dsimp only [we, wes, wbo, Option.toList, g0, g1, g2, g3, g4, g5, g6, g7, g8, g9, g10, g11, List.set_cons_zero, List.set_cons_succ, onDef, mthQ, methP, asI, asB, slQ, nn, binP, cmpQ, cmpP, subP, bfP, augP, inStr, shorts, Gl.val, tn0, tn1, tn2, tnl0, tnl1, tnl2, tnl3]
        by_cases hw : w = []
        · subst hw
          rw [if_pos rfl] at hs
          refine i_f rfl (s_join ?_)
          refine s_assign ?_; dsimp only [we, wes, wbo, Option.toList, g0, g1, g2, g3, g4, g5, g6, g7, g8, g9, g10, g11, List.set_cons_zero, List.set_cons_succ, onDef, mthQ, methP, asI, asB, slQ, nn, binP, cmpQ, cmpP, subP, bfP, augP, inStr, shorts, Gl.val, tn0, tn1, tn2, tnl0, tnl1, tnl2, tnl3]
          refine s_join (s_nil ?_)
          dsimp only [seqK, loopK, leave]
          exact ⟨r, [], ws, _, rfl, rfl, rfl, by simp at hn ⊢; omega, hs⟩
        · rw [if_neg hw] at hs
          refine i_t (by simpa using hw) ?_
          refine s_expr ?_; dsimp only [we, wes, wbo, Option.toList, g0, g1, g2, g3, g4, g5, g6, g7, g8, g9, g10, g11, List.set_cons_zero, List.set_cons_succ, onDef, mthQ, methP, asI, asB, slQ, nn, binP, cmpQ, cmpP, subP, bfP, augP, inStr, shorts, Gl.val, tn0, tn1, tn2, tnl0, tnl1, tnl2, tnl3]
          refine ⟨⟨_, upd_self ..⟩, _, upd_self .., Nat.lt_of_le_of_lt (m := 100000) (by rw [List.length_map]; omega) (by decide), ?_⟩
          rw [upd2]
          refine s_join ?_
          refine s_assign ?_; dsimp only [we, wes, wbo, Option.toList, g0, g1, g2, g3, g4, g5, g6, g7, g8, g9, g10, g11, List.set_cons_zero, List.set_cons_succ, onDef, mthQ, methP, asI, asB, slQ, nn, binP, cmpQ, cmpP, subP, bfP, augP, inStr, shorts, Gl.val, tn0, tn1, tn2, tnl0, tnl1, tnl2, tnl3]
          refine s_join (s_nil ?_)
          dsimp only [seqK, loopK, leave]
          refine ⟨r, [], ws ++ [w], _, rfl, rfl, by simp, ?_, by rw [hs, List.append_assoc]; rfl⟩
          have : 1 ≤ w.length := by cases w with | nil => exact absurd rfl hw | cons _ _ => simp
          simp
          omega
      · rw [if_neg hc] at hs
        refine i_f (decide_eq_false hc) ?_
        refine s_aug ?_; dsimp only [we, wes, wbo, Option.toList, g0, g1, g2, g3, g4, g5, g6, g7, g8, g9, g10, g11, List.set_cons_zero, List.set_cons_succ, onDef, mthQ, methP, asI, asB, slQ, nn, binP, cmpQ, cmpP, subP, bfP, augP, inStr, shorts, Gl.val, tn0, tn1, tn2, tnl0, tnl1, tnl2, tnl3]
        refine ⟨szle (by simp only [List.length_cons, List.length_nil]; omega), s_join (s_nil ?_)⟩
        dsimp only [seqK, loopK, leave]
        exact ⟨r, w ++ [c], ws, _, rfl, rfl, rfl, by simp; omega, hs⟩
  · rintro σ O' ⟨r, w, ws, sg, hl, rfl, rfl, hn, hs⟩
    cases r with
    | cons c r => cases hl
    | nil =>
      rw [splitW_nil] at hs
      refine s_ifs ?_; dsimp only [we, wes, wbo, Option.toList, g0, g1, g2, g3, g4, g5, g6, g7, g8, g9, g10, g11, List.set_cons_zero, List.set_cons_succ, onDef, mthQ, methP, asI, asB, slQ, nn, binP, cmpQ, cmpP, subP, bfP, augP, inStr, shorts, Gl.val, tn0, tn1, tn2, tnl0, tnl1, tnl2, tnl3]
      by_cases hw : w = []
      · subst hw
        rw [if_pos rfl, List.append_nil] at hs
        refine i_f rfl (s_join ?_)
        refine s_ret ?_; dsimp only [we, wes, wbo, Option.toList, g0, g1, g2, g3, g4, g5, g6, g7, g8, g9, g10, g11, List.set_cons_zero, List.set_cons_succ, onDef, mthQ, methP, asI, asB, slQ, nn, binP, cmpQ, cmpP, subP, bfP, augP, inStr, shorts, Gl.val, tn0, tn1, tn2, tnl0, tnl1, tnl2, tnl3]
        exact .own hL haL (hs ▸ k a haO)
      · rw [if_neg hw] at hs
        refine i_t (by simpa using hw) ?_
        refine s_expr ?_; dsimp only [we, wes, wbo, Option.toList, g0, g1, g2, g3, g4, g5, g6, g7, g8, g9, g10, g11, List.set_cons_zero, List.set_cons_succ, onDef, mthQ, methP, asI, asB, slQ, nn, binP, cmpQ, cmpP, subP, bfP, augP, inStr, shorts, Gl.val, tn0, tn1, tn2, tnl0, tnl1, tnl2, tnl3]
        refine ⟨⟨_, upd_self ..⟩, _, upd_self .., Nat.lt_of_le_of_lt (m := 100000) (by rw [List.length_map]; omega) (by decide), ?_⟩
        rw [upd2]
        refine s_join ?_
        refine s_ret ?_; dsimp only [we, wes, wbo, Option.toList, g0, g1, g2, g3, g4, g5, g6, g7, g8, g9, g10, g11, List.set_cons_zero, List.set_cons_succ, onDef, mthQ, methP, asI, asB, slQ, nn, binP, cmpQ, cmpP, subP, bfP, augP, inStr, shorts, Gl.val, tn0, tn1, tn2, tnl0, tnl1, tnl2, tnl3]
        refine .own hL haL ?_
        have := k a haO
        rw [hs, List.map_append] at this
        exact this
end
theorem upd_comm {O : MH} {a b : Addr} {c d : Cell} (h : a ≠ b) : upd (upd O a c) b d = upd (upd O b d) a c := by
  funext x
  by_cases h1 : x = b
  · subst h1; rw [upd_self, upd_ne _ (Ne.symm h), upd_self]
  · rw [upd_ne _ h1]
    by_cases h2 : x = a
    · subst h2; rw [upd_self, upd_self]
    · rw [upd_ne _ h2, upd_ne _ h2, upd_ne _ h1]
theorem Back.tape {O : MH} {L t : Addr} {c₀ c : Cell} {K : V → MH → Prop} {v : V} (h : O L = none) (ht : t ≠ L) (k : K v (upd O t c)) : Back (upd O t c₀) L K v (upd (upd O L .frame) t c) := by
  have := Back.own (O := upd O t c₀) (L := L) (a := t) (c := c) (K := K) (v := v) (by rw [upd_ne _ (Ne.symm ht)]; exact h) ht (by rw [upd2]; exact k)
  rwa [upd_comm ht, upd2] at this

end Mine
end
section
open PySem PySem.W PySem.Calls PyProof.Rows
set_option Elab.async false
set_option maxRecDepth 8000
set_option maxHeartbeats 2000000
set_option linter.all false
namespace Mine
noncomputable def tapeC (tp : List Int) (a : Nat) : Cell := .list [.fl (tp.map V.int), .int (a : Int)]
section
variable {n : Nat} {O : MH} {K : V → MH → Prop} {E : Int → MH → Prop}
theorem ne_of {O : MH} {L t : Addr} {c : Cell} (hL : O L = none) (ht : O t = some c) : t ≠ L := by rintro rfl; rw [hL] at ht; cases ht
theorem take_c {t : Addr} {tp : List Int} {a m : Nat} (ht : O t = some (tapeC tp a)) (ha : a < 10000) (hm : 0 < m) (k : ∀ r : Nat, r < m → K (.int r) (upd O t (tapeC tp (a + 1)))) : Hold (CC (n + 1) .take [.lst t, .int m] O K E) := by
  refine ⟨⟨rfl, fun L hL => Hold.out ?_⟩⟩; dsimp only [start, names, ar, List.length_cons, List.length_nil, Nat.zero_add, Nat.reduceAdd, Nat.reduceSub, Nat.sub_self, List.replicate, List.append_nil, List.cons_append, List.nil_append]
  have hne := ne_of hL ht
  have hO : upd O L .frame t = some (.list [.fl (tp.map V.int), .int (a : Int)]) := by rw [upd_ne _ hne]; exact ht
  have fin : ∀ i : Int, Back O L K (.int (i % (m : Int))) (upd (upd O L .frame) t (tapeC tp (a + 1))) := fun i => by
    have h0 : 0 ≤ i % (m : Int) := Int.emod_nonneg _ (by omega)
    have h1 : i % (m : Int) < m := Int.emod_lt_of_pos _ (by omega)
    have := k (i % (m : Int)).toNat (by omega)
    rw [Int.toNat_of_nonneg h0] at this
    exact .own hL hne this
  refine s_assign ?_; dsimp only [we, wes, wbo, Option.toList, g0, g1, g2, g3, g4, g5, g6, g7, g8, g9, g10, g11, List.set_cons_zero, List.set_cons_succ, onDef, mthQ, methP, asI, asB, slQ, nn, binP, cmpQ, cmpP, subP, bfP, augP, inStr, shorts, Gl.val, tn0, tn1, tn2, tnl0, tnl1, tnl2, tnl3]
  refine ⟨_, _, hO, rfl, ?_⟩
  refine s_setsub ?_; dsimp only [we, wes, wbo, Option.toList, g0, g1, g2, g3, g4, g5, g6, g7, g8, g9, g10, g11, List.set_cons_zero, List.set_cons_succ, onDef, mthQ, methP, asI, asB, slQ, nn, binP, cmpQ, cmpP, subP, bfP, augP, inStr, shorts, Gl.val, tn0, tn1, tn2, tnl0, tnl1, tnl2, tnl3]
  refine ⟨_, hO, by decide, by simp, ?_⟩
  refine s_ifs ?_; dsimp only [we, wes, wbo, Option.toList, g0, g1, g2, g3, g4, g5, g6, g7, g8, g9, g10, g11, List.set_cons_zero, List.set_cons_succ, onDef, mthQ, methP, asI, asB, slQ, nn, binP, cmpQ, cmpP, subP, bfP, augP, inStr, shorts, Gl.val, tn0, tn1, tn2, tnl0, tnl1, tnl2, tnl3]
  refine ⟨_, _, upd_self .., rfl, ?_⟩
  dsimp only [we, wes, wbo, Option.toList, g0, g1, g2, g3, g4, g5, g6, g7, g8, g9, g10, g11, List.set_cons_zero, List.set_cons_succ, onDef, mthQ, methP, asI, asB, slQ, nn, binP, cmpQ, cmpP, subP, bfP, augP, inStr, shorts, Gl.val, tn0, tn1, tn2, tnl0, tnl1, tnl2, tnl3]
  rw [List.length_map]
  refine i_s (fun h => ?_) (fun h => ?_)
  · have hl : a < tp.length := by have := of_decide_eq_true h; omega
    refine s_ret ?_; dsimp only [we, wes, wbo, Option.toList, g0, g1, g2, g3, g4, g5, g6, g7, g8, g9, g10, g11, List.set_cons_zero, List.set_cons_succ, onDef, mthQ, methP, asI, asB, slQ, nn, binP, cmpQ, cmpP, subP, bfP, augP, inStr, shorts, Gl.val, tn0, tn1, tn2, tnl0, tnl1, tnl2, tnl3]
    refine ⟨_, _, upd_self .., rfl, ?_⟩
    dsimp only [we, wes, wbo, Option.toList, g0, g1, g2, g3, g4, g5, g6, g7, g8, g9, g10, g11, List.set_cons_zero, List.set_cons_succ, onDef, mthQ, methP, asI, asB, slQ, nn, binP, cmpQ, cmpP, subP, bfP, augP, inStr, shorts, Gl.val, tn0, tn1, tn2, tnl0, tnl1, tnl2, tnl3]
    refine ⟨.int tp[a], ?_, ?_⟩
    · unfold at?
      rw [if_pos (by omega)]
      show (tp.map V.int)[a]? = _
      rw [List.getElem?_map, List.getElem?_eq_getElem hl]; rfl
    · dsimp only [we, wes, wbo, Option.toList, g0, g1, g2, g3, g4, g5, g6, g7, g8, g9, g10, g11, List.set_cons_zero, List.set_cons_succ, onDef, mthQ, methP, asI, asB, slQ, nn, binP, cmpQ, cmpP, subP, bfP, augP, inStr, shorts, Gl.val, tn0, tn1, tn2, tnl0, tnl1, tnl2, tnl3]
      exact ⟨by omega, fin _⟩
  · refine s_join ?_
    refine s_ret ?_; dsimp only [we, wes, wbo, Option.toList, g0, g1, g2, g3, g4, g5, g6, g7, g8, g9, g10, g11, List.set_cons_zero, List.set_cons_succ, onDef, mthQ, methP, asI, asB, slQ, nn, binP, cmpQ, cmpP, subP, bfP, augP, inStr, shorts, Gl.val, tn0, tn1, tn2, tnl0, tnl1, tnl2, tnl3]
    exact ⟨by omega, by omega, by decide, by omega, by omega, fin _⟩
/-- the closing signs of the law -/
noncomputable def endsL : List (List Nat × List Nat) := [([40], [41]), ([123], [125]), ([60], [62]), ([91], [93]), ([39], [39]), ([47], [47]), ([124], [124]), ([33], [33])]
theorem ends_c (k : K (.dct endsL) O) : Hold (CC (n + 1) .ends [] O K E) := by
  refine ⟨⟨rfl, fun L hL => Hold.out ?_⟩⟩; dsimp only [start, names, ar, List.length_cons, List.length_nil, Nat.zero_add, Nat.reduceAdd, Nat.reduceSub, Nat.sub_self, List.replicate, List.append_nil, List.cons_append, List.nil_append]
  refine s_ret ?_; dsimp only [we, wes, wbo, Option.toList, g0, g1, g2, g3, g4, g5, g6, g7, g8, g9, g10, g11, List.set_cons_zero, List.set_cons_succ, onDef, mthQ, methP, asI, asB, slQ, nn, binP, cmpQ, cmpP, subP, bfP, augP, inStr, shorts, Gl.val, tn0, tn1, tn2, tnl0, tnl1, tnl2, tnl3]
  exact ⟨by decide, .pure hL k⟩
end

end Mine
end
section
open PySem PySem.W PySem.Calls PyProof.Rows
set_option Elab.async false
set_option maxRecDepth 8000
set_option maxHeartbeats 2000000
set_option linter.all false
namespace Mine
/-- the law's delimiters -/
noncomputable def delims : List (Nat × Nat) := [(40, 41), (123, 125), (60, 62), (91, 93), (39, 39), (47, 47), (124, 124), (33, 33)]
structure Dl (o c : Nat) : Prop where
  mem : (o, c) ∈ delims
theorem Dl.facts {o c : Nat} (h : Dl o c) : look endsL [o] = some [c] ∧ clo [o] = [c] ∧ o ≠ 92 ∧ c ≠ 92 ∧ (∀ x ∈ [97, 66, 48, 32, 95, 46, 59, 10, 110, 36, 116], x ≠ o ∧ x ≠ c) := by
  obtain ⟨h⟩ := h
  revert h
  have : ∀ p ∈ delims, look endsL [p.1] = some [p.2] ∧ clo [p.1] = [p.2] ∧ p.1 ≠ 92 ∧ p.2 ≠ 92 ∧ (∀ x ∈ [97, 66, 48, 32, 95, 46, 59, 10, 110, 36, 116], x ≠ p.1 ∧ x ≠ p.2) := by decide
  exact this (o, c)
/-- an inner text of the law, with what the two readings make of it -/
structure Pc (o c : Nat) (raw q k : List Nat) : Prop where
  scan : ∀ d rest, 1 ≤ d → scan c o d (raw ++ rest) = (scan c o d rest).map (· + raw.length)
  qt : ∀ rest, ung [o] [c] true (raw ++ rest) = q ++ ung [o] [c] true rest
  kt : ∀ rest, ung [o] [c] false (raw ++ rest) = k ++ ung [o] [c] false rest
theorem Pc.nil (o c : Nat) : Pc o c [] [] [] := ⟨fun d rest _ => by simp, fun _ => rfl, fun _ => rfl⟩
theorem Pc.app {o c : Nat} {r q k r' q' k' : List Nat} (x : Pc o c r q k) (y : Pc o c r' q' k') : Pc o c (r ++ r') (q ++ q') (k ++ k') := by
  refine ⟨fun d rest hd => ?_, fun rest => ?_, fun rest => ?_⟩
  · rw [List.append_assoc, x.scan d _ hd, y.scan d _ hd, Option.map_map]
    congr 1
    funext z
    simp
    omega
  · rw [List.append_assoc, x.qt, y.qt, List.append_assoc]
  · rw [List.append_assoc, x.kt, y.kt, List.append_assoc]
theorem Pc.one {o c x : Nat} (h : x ≠ 92) (ho : x ≠ o) (hc : x ≠ c) : Pc o c [x] [x] [x] :=
  ⟨fun d rest _ => scan_on h hc ho, fun rest => ung_x h, fun rest => ung_x h⟩
theorem scan_pair {o c d f : Nat} {rest : List Nat} : scan c o d ([92, f] ++ rest) = (scan c o d rest).map (· + 2) := by
  show scan c o d (92 :: (f :: rest)) = _
  rw [scan_back]; rfl
theorem Pc.guard {o c s : Nat} (h : s = o ∨ s = c) : Pc o c [92, s] [s] [s] := by
  refine ⟨fun d rest _ => scan_pair, fun rest => ?_, fun rest => ?_⟩
  · show (if (92 : Nat) = 92 then _ else _) = _
    rw [if_pos rfl, if_pos (by rcases h with h | h <;> simp [h])]; rfl
  · show (if (92 : Nat) = 92 then _ else _) = _
    rw [if_pos rfl, if_pos (by rcases h with h | h <;> simp [h])]; rfl
theorem Pc.two {o c : Nat} (ho : o ≠ 92) (hc : c ≠ 92) : Pc o c [92, 92] [92] [92, 92] := by
  refine ⟨fun d rest _ => scan_pair, fun rest => ?_, fun rest => ?_⟩
  · show (if (92 : Nat) = 92 then _ else _) = _
    rw [if_pos rfl, if_pos (.inr (.inr ⟨rfl, rfl⟩))]; rfl
  · show (if (92 : Nat) = 92 then _ else _) = _
    rw [if_pos rfl, if_neg (by simp; exact ⟨Ne.symm ho, Ne.symm hc⟩)]; rfl
theorem Pc.other {o c s : Nat} (h : s ≠ 92) (ho : s ≠ o) (hc : s ≠ c) : Pc o c [92, s] [92, s] [92, s] := by
  refine ⟨fun d rest _ => scan_pair, fun rest => ?_, fun rest => ?_⟩
  · show (if (92 : Nat) = 92 then _ else _) = _
    rw [if_pos rfl, if_neg (by simp [h, ho, hc])]; rfl
  · show (if (92 : Nat) = 92 then _ else _) = _
    rw [if_pos rfl, if_neg (by simp [h, ho, hc])]; rfl
theorem Pc.nest {o c : Nat} {r q k : List Nat} (x : Pc o c r q k) (ho : o ≠ 92) (hc : c ≠ 92) (hoc : o ≠ c) : Pc o c ([o] ++ r ++ [c]) ([o] ++ q ++ [c]) ([o] ++ k ++ [c]) := by
  refine ⟨fun d rest hd => ?_, fun rest => ?_, fun rest => ?_⟩
  · rw [show [o] ++ r ++ [c] ++ rest = o :: (r ++ (c :: rest)) by simp, scan_more ho hoc, x.scan _ _ (by omega), scan_less hc (by omega), Option.map_map, Option.map_map, Nat.add_sub_cancel]
    congr 1
    funext z
    simp
    omega
  · rw [show [o] ++ r ++ [c] ++ rest = o :: (r ++ (c :: rest)) by simp, ung_x ho, x.qt, ung_x hc]
    simp
  · rw [show [o] ++ r ++ [c] ++ rest = o :: (r ++ (c :: rest)) by simp, ung_x ho, x.kt, ung_x hc]
    simp

end Mine
end
section
open PySem PySem.W PySem.Calls PyProof.Rows
set_option Elab.async false
set_option maxRecDepth 8000
set_option maxHeartbeats 2000000
set_option linter.all false
namespace Mine
theorem and3 {p q s : Bool} {A B : Prop} (h : if (p && q && s) = true then A else B) : if (!p) = true then (if p = true then A else B) else (if (!q) = true then (if q = true then A else B) else (if (!s) = true then (if s = true then A else B) else (if s = true then A else B))) := by
  cases p <;> cases q <;> cases s <;> simpa using h
theorem rngItems (r : Nat) (h : r < 1000000) : itemsOf (.rng 0 (r : Int)) = some ((List.range ((r : Int) - 0).toNat).map fun (k : Nat) => .int (0 + (k : Int))) :=
  if_pos ⟨by omega, by omega, by omega, by omega⟩
theorem at_nat {α : Type} (l : List α) (k : Nat) : at? l (k : Int) = l[k]? := if_pos (by omega)
theorem take_u {n : Nat} {O : MH} {K : V → MH → Prop} {E : Int → MH → Prop} {t : Addr} {tp : List Int} {a m : Nat} (ha : a < 10000) (hm : 0 < m) (k : ∀ r : Nat, r < m → K (.int r) (upd O t (tapeC tp (a + 1)))) : Hold (CC (n + 1) .take [.lst t, .int m] (upd O t (tapeC tp a)) K E) :=
  take_c (upd_self ..) ha hm fun r hr => by rw [upd2]; exact k r hr
theorem pick {l : List (List Nat)} {z : Nat} (h : z < l.length) : ∃ s ∈ l, at? (l.map V.str) (z : Int) = some (.str s) :=
  ⟨l[z], List.getElem_mem h, by rw [at_nat, List.getElem?_map, List.getElem?_eq_getElem h]; rfl⟩
structure InnerOk (N d T B : Nat) : Prop where
  go : ∀ {o c : Nat} {t : Addr} {tp : List Int} {a : Nat} {O : MH} {K : V → MH → Prop} {E : Int → MH → Prop}, Dl o c → a + T ≤ 9000 →
  (∀ raw q k a', Pc o c raw q k → raw.length ≤ B → q.length ≤ B → k.length ≤ B → a ≤ a' → a' ≤ a + T → K (.tup [.str raw, .str q, .str k]) (upd O t (tapeC tp a'))) → Hold (CC N .inner [.lst t, .str [o], .int (d : Int)] (upd O t (tapeC tp a)) K E)
theorem inner_step {N d T B : Nat} (hd : d = 0 ∨ InnerOk (N + 1) (d - 1) T B) (hT : 1 ≤ T) (hB : B ≤ 1000) : InnerOk (N + 2) d (1 + 4 * (1 + T)) (4 * (2 + B)) := by
  refine ⟨fun {o c t tp a O K E} hdl hb hK => ?_⟩
  obtain ⟨f1, f2, f3, f4, f5⟩ := hdl.facts
  refine ⟨⟨rfl, fun L hL => Hold.out ?_⟩⟩; dsimp only [start, names, ar, List.length_cons, List.length_nil, Nat.zero_add, Nat.reduceAdd, Nat.reduceSub, Nat.sub_self, List.replicate, List.append_nil, List.cons_append, List.nil_append]
  have hne : t ≠ L := by rintro rfl; rw [upd_self] at hL; cases hL
  have hL2 : O L = none := by rw [← hL, upd_ne _ (Ne.symm hne)]
  rw [upd_comm hne]
  refine s_assign ?_; dsimp only [we, wes, wbo, Option.toList, g0, g1, g2, g3, g4, g5, g6, g7, g8, g9, g10, g11, List.set_cons_zero, List.set_cons_succ, onDef, mthQ, methP, asI, asB, slQ, nn, binP, cmpQ, cmpP, subP, bfP, augP, inStr, shorts, Gl.val, tn0, tn1, tn2, tnl0, tnl1, tnl2, tnl3]
  refine ends_c ?_
  refine ⟨_, f1, ?_⟩
  refine s_assign ?_; dsimp only [we, wes, wbo, Option.toList, g0, g1, g2, g3, g4, g5, g6, g7, g8, g9, g10, g11, List.set_cons_zero, List.set_cons_succ, onDef, mthQ, methP, asI, asB, slQ, nn, binP, cmpQ, cmpP, subP, bfP, augP, inStr, shorts, Gl.val, tn0, tn1, tn2, tnl0, tnl1, tnl2, tnl3]
  refine s_assign ?_; dsimp only [we, wes, wbo, Option.toList, g0, g1, g2, g3, g4, g5, g6, g7, g8, g9, g10, g11, List.set_cons_zero, List.set_cons_succ, onDef, mthQ, methP, asI, asB, slQ, nn, binP, cmpQ, cmpP, subP, bfP, augP, inStr, shorts, Gl.val, tn0, tn1, tn2, tnl0, tnl1, tnl2, tnl3]
  refine s_assign ?_; dsimp only [we, wes, wbo, Option.toList, g0, g1, g2, g3, g4, g5, g6, g7, g8, g9, g10, g11, List.set_cons_zero, List.set_cons_succ, onDef, mthQ, methP, asI, asB, slQ, nn, binP, cmpQ, cmpP, subP, bfP, augP, inStr, shorts, Gl.val, tn0, tn1, tn2, tnl0, tnl1, tnl2, tnl3]
  refine s_for ?_
  dsimp only [we, wes, wbo, Option.toList, g0, g1, g2, g3, g4, g5, g6, g7, g8, g9, g10, g11, List.set_cons_zero, List.set_cons_succ, onDef, mthQ, methP, asI, asB, slQ, nn, binP, cmpQ, cmpP, subP, bfP, augP, inStr, shorts, Gl.val, tn0, tn1, tn2, tnl0, tnl1, tnl2, tnl3]
  refine take_u (m := 5) (by omega) (by decide) fun r hr => ?_
  dsimp only [we, wes, wbo, Option.toList, g0, g1, g2, g3, g4, g5, g6, g7, g8, g9, g10, g11, List.set_cons_zero, List.set_cons_succ, onDef, mthQ, methP, asI, asB, slQ, nn, binP, cmpQ, cmpP, subP, bfP, augP, inStr, shorts, Gl.val, tn0, tn1, tn2, tnl0, tnl1, tnl2, tnl3]
  refine ⟨_, rngItems r (by omega), fun l σ O' => ∃ (raw q k' : List Nat) (a' m : Nat) (s7 s8 s9 s10 : V), σ = [.lst t, .str [o], .int (d : Int), .str [c], .str raw, .str q, .str k', s7, s8, s9, s10] ∧ O' = upd (upd O L .frame) t (tapeC tp a') ∧ Pc o c raw q k' ∧
    m + l.length ≤ 4 ∧ raw.length ≤ m * (2 + B) ∧ q.length ≤ m * (2 + B) ∧ k'.length ≤ m * (2 + B) ∧ a ≤ a' ∧ a' ≤ a + 1 + m * (1 + T), ⟨[], [], [], a + 1, 0, .undef, .undef, .undef, .undef, rfl, rfl, .nil o c, by simp; omega, by simp, by simp, by simp, by omega, by omega⟩, ?_, ?_⟩
  · rintro x l σ O' ⟨raw, q, k', a', m, s7, s8, s9, s10, rfl, rfl, hp, hm, h1, h2, h3, h4, h5⟩
    rw [List.length_cons] at hm
    have hm4 : m * (1 + T) ≤ 3 * (1 + T) := Nat.mul_le_mul_right _ (by omega)
    have hmB : m * (2 + B) ≤ 3 * (2 + B) := Nat.mul_le_mul_right _ (by omega)
    have again : ∀ (raw' q' k'' : List Nat) (a'' : Nat) (s8 s9 s10 : V), Pc o c raw' q' k'' → raw'.length ≤ 2 + B → q'.length ≤ 2 + B → k''.length ≤ 2 + B → a' ≤ a'' → a'' ≤ a' + (1 + T) →
        ∃ (raw₁ q₁ k₁ : List Nat) (a₁ m : Nat) (s7 s8' s9' s10' : V), ([.lst t, .str [o], .int (d : Int), .str [c], .str (raw ++ raw'), .str (q ++ q'), .str (k' ++ k''), x, s8, s9, s10] : List V) = [.lst t, .str [o], .int (d : Int), .str [c], .str raw₁, .str q₁, .str k₁, s7, s8', s9', s10'] ∧ upd (upd O L .frame) t (tapeC tp a'') = upd (upd O L .frame) t (tapeC tp a₁) ∧ Pc o c raw₁ q₁ k₁ ∧
          m + l.length ≤ 4 ∧ raw₁.length ≤ m * (2 + B) ∧ q₁.length ≤ m * (2 + B) ∧ k₁.length ≤ m * (2 + B) ∧ a ≤ a₁ ∧ a₁ ≤ a + 1 + m * (1 + T) := fun raw' q' k'' a'' s8 s9 s10 y y1 y2 y3 y4 y5 =>
      have eT : (m + 1) * (1 + T) = m * (1 + T) + (1 + T) := Nat.succ_mul ..
      have eB : (m + 1) * (2 + B) = m * (2 + B) + (2 + B) := Nat.succ_mul ..
      ⟨raw ++ raw', q ++ q', k' ++ k'', a'', m + 1, x, s8, s9, s10, rfl, rfl, hp.app y, by omega, by rw [List.length_append, eB]; omega, by rw [List.length_append, eB]; omega, by rw [List.length_append, eB]; omega, by omega, by rw [eT]; omega⟩
    generalize m * (1 + T) = mT at h5 hm4
    generalize m * (2 + B) = mB at h1 h2 h3 hmB
    refine s_assign ?_; dsimp only [we, wes, wbo, Option.toList, g0, g1, g2, g3, g4, g5, g6, g7, g8, g9, g10, g11, List.set_cons_zero, List.set_cons_succ, onDef, mthQ, methP, asI, asB, slQ, nn, binP, cmpQ, cmpP, subP, bfP, augP, inStr, shorts, Gl.val, tn0, tn1, tn2, tnl0, tnl1, tnl2, tnl3]
    refine take_u (m := 6) (by omega) (by decide) fun w hw => ?_
    refine s_ifs ?_; dsimp only [we, wes, wbo, Option.toList, g0, g1, g2, g3, g4, g5, g6, g7, g8, g9, g10, g11, List.set_cons_zero, List.set_cons_succ, onDef, mthQ, methP, asI, asB, slQ, nn, binP, cmpQ, cmpP, subP, bfP, augP, inStr, shorts, Gl.val, tn0, tn1, tn2, tnl0, tnl1, tnl2, tnl3]
    refine and3 (i_s (fun h => ?_) (fun h => ?_))
    · simp only [Bool.and_eq_true, beq_iff_eq, decide_eq_true_eq, bne_iff_ne, ne_eq] at h
      obtain ⟨⟨hw3, hd0⟩, hco⟩ := h
      have hd0' : 0 < d := by omega
      have hoc : o ≠ c := by rintro rfl; exact hco rfl
      rcases hd with hd | hi
      · omega
      refine s_assign ?_; dsimp only [we, wes, wbo, Option.toList, g0, g1, g2, g3, g4, g5, g6, g7, g8, g9, g10, g11, List.set_cons_zero, List.set_cons_succ, onDef, mthQ, methP, asI, asB, slQ, nn, binP, cmpQ, cmpP, subP, bfP, augP, inStr, shorts, Gl.val, tn0, tn1, tn2, tnl0, tnl1, tnl2, tnl3]
      rw [show (d : Int) - 1 = ((d - 1 : Nat) : Int) by omega]
      refine hi.go hdl (by omega) fun raw' q' k'' a'' y y1 y2 y3 y4 y5 => ?_
      refine s_aug ?_; dsimp only [we, wes, wbo, Option.toList, g0, g1, g2, g3, g4, g5, g6, g7, g8, g9, g10, g11, List.set_cons_zero, List.set_cons_succ, onDef, mthQ, methP, asI, asB, slQ, nn, binP, cmpQ, cmpP, subP, bfP, augP, inStr, shorts, Gl.val, tn0, tn1, tn2, tnl0, tnl1, tnl2, tnl3]
      refine ⟨by decide, _, rfl, ?_⟩
      dsimp only [we, wes, wbo, Option.toList, g0, g1, g2, g3, g4, g5, g6, g7, g8, g9, g10, g11, List.set_cons_zero, List.set_cons_succ, onDef, mthQ, methP, asI, asB, slQ, nn, binP, cmpQ, cmpP, subP, bfP, augP, inStr, shorts, Gl.val, tn0, tn1, tn2, tnl0, tnl1, tnl2, tnl3]
      refine ⟨szle (by (try simp only [List.length_append, List.length_cons, List.length_nil]); omega), szle (by (try simp only [List.length_append, List.length_cons, List.length_nil]); omega), szle (by (try simp only [List.length_append, List.length_cons, List.length_nil]); omega), ?_⟩
      refine s_aug ?_; dsimp only [we, wes, wbo, Option.toList, g0, g1, g2, g3, g4, g5, g6, g7, g8, g9, g10, g11, List.set_cons_zero, List.set_cons_succ, onDef, mthQ, methP, asI, asB, slQ, nn, binP, cmpQ, cmpP, subP, bfP, augP, inStr, shorts, Gl.val, tn0, tn1, tn2, tnl0, tnl1, tnl2, tnl3]
      refine ⟨by decide, _, rfl, ?_⟩
      dsimp only [we, wes, wbo, Option.toList, g0, g1, g2, g3, g4, g5, g6, g7, g8, g9, g10, g11, List.set_cons_zero, List.set_cons_succ, onDef, mthQ, methP, asI, asB, slQ, nn, binP, cmpQ, cmpP, subP, bfP, augP, inStr, shorts, Gl.val, tn0, tn1, tn2, tnl0, tnl1, tnl2, tnl3]
      refine ⟨szle (by (try simp only [List.length_append, List.length_cons, List.length_nil]); omega), szle (by (try simp only [List.length_append, List.length_cons, List.length_nil]); omega), szle (by (try simp only [List.length_append, List.length_cons, List.length_nil]); omega), ?_⟩
      refine s_aug ?_; dsimp only [we, wes, wbo, Option.toList, g0, g1, g2, g3, g4, g5, g6, g7, g8, g9, g10, g11, List.set_cons_zero, List.set_cons_succ, onDef, mthQ, methP, asI, asB, slQ, nn, binP, cmpQ, cmpP, subP, bfP, augP, inStr, shorts, Gl.val, tn0, tn1, tn2, tnl0, tnl1, tnl2, tnl3]
      refine ⟨by decide, _, rfl, ?_⟩
      dsimp only [we, wes, wbo, Option.toList, g0, g1, g2, g3, g4, g5, g6, g7, g8, g9, g10, g11, List.set_cons_zero, List.set_cons_succ, onDef, mthQ, methP, asI, asB, slQ, nn, binP, cmpQ, cmpP, subP, bfP, augP, inStr, shorts, Gl.val, tn0, tn1, tn2, tnl0, tnl1, tnl2, tnl3]
      refine ⟨szle (by (try simp only [List.length_append, List.length_cons, List.length_nil]); omega), szle (by (try simp only [List.length_append, List.length_cons, List.length_nil]); omega), szle (by (try simp only [List.length_append, List.length_cons, List.length_nil]); omega), ?_⟩
      refine s_join (s_nil ?_)
      dsimp only [seqK, loopK, leave]
      refine again _ _ _ _ _ _ _ (y.nest f3 f4 hoc) ?_ ?_ ?_ (by omega) (by omega) <;> simp only [List.length_append, List.length_cons, List.length_nil] <;> omega
    · refine s_ifs ?_; dsimp only [we, wes, wbo, Option.toList, g0, g1, g2, g3, g4, g5, g6, g7, g8, g9, g10, g11, List.set_cons_zero, List.set_cons_succ, onDef, mthQ, methP, asI, asB, slQ, nn, binP, cmpQ, cmpP, subP, bfP, augP, inStr, shorts, Gl.val, tn0, tn1, tn2, tnl0, tnl1, tnl2, tnl3]
      refine i_s (fun h => ?_) (fun h => ?_)
      · refine s_assign ?_; dsimp only [we, wes, wbo, Option.toList, g0, g1, g2, g3, g4, g5, g6, g7, g8, g9, g10, g11, List.set_cons_zero, List.set_cons_succ, onDef, mthQ, methP, asI, asB, slQ, nn, binP, cmpQ, cmpP, subP, bfP, augP, inStr, shorts, Gl.val, tn0, tn1, tn2, tnl0, tnl1, tnl2, tnl3]
        refine take_u (m := 2) (by omega) (by decide) fun z hz => ?_
        obtain ⟨s', hs', e⟩ := pick (l := [[o], [c]]) (z := z) hz
        obtain ⟨s, rfl, hs⟩ : ∃ s, s' = [s] ∧ (s = o ∨ s = c) := by
          simp only [List.mem_cons, List.not_mem_nil, or_false] at hs'
          rcases hs' with rfl | rfl
          · exact ⟨_, rfl, .inl rfl⟩
          · exact ⟨_, rfl, .inr rfl⟩
        refine ⟨_, e, ?_⟩
        refine s_aug ?_; dsimp only [we, wes, wbo, Option.toList, g0, g1, g2, g3, g4, g5, g6, g7, g8, g9, g10, g11, List.set_cons_zero, List.set_cons_succ, onDef, mthQ, methP, asI, asB, slQ, nn, binP, cmpQ, cmpP, subP, bfP, augP, inStr, shorts, Gl.val, tn0, tn1, tn2, tnl0, tnl1, tnl2, tnl3]
        refine ⟨szle (by (try simp only [List.length_append, List.length_cons, List.length_nil]); omega), szle (by (try simp only [List.length_append, List.length_cons, List.length_nil]); omega), ?_⟩
        refine s_aug ?_; dsimp only [we, wes, wbo, Option.toList, g0, g1, g2, g3, g4, g5, g6, g7, g8, g9, g10, g11, List.set_cons_zero, List.set_cons_succ, onDef, mthQ, methP, asI, asB, slQ, nn, binP, cmpQ, cmpP, subP, bfP, augP, inStr, shorts, Gl.val, tn0, tn1, tn2, tnl0, tnl1, tnl2, tnl3]
        refine ⟨szle (by (try simp only [List.length_append, List.length_cons, List.length_nil]); omega), ?_⟩
        refine s_aug ?_; dsimp only [we, wes, wbo, Option.toList, g0, g1, g2, g3, g4, g5, g6, g7, g8, g9, g10, g11, List.set_cons_zero, List.set_cons_succ, onDef, mthQ, methP, asI, asB, slQ, nn, binP, cmpQ, cmpP, subP, bfP, augP, inStr, shorts, Gl.val, tn0, tn1, tn2, tnl0, tnl1, tnl2, tnl3]
        refine ⟨szle (by (try simp only [List.length_append, List.length_cons, List.length_nil]); omega), ?_⟩
        refine s_join (s_join (s_nil ?_))
        dsimp only [seqK, loopK, leave]
        refine again _ _ _ _ _ _ _ (.guard hs) ?_ ?_ ?_ (by omega) (by omega) <;> simp only [List.length_append, List.length_cons, List.length_nil] <;> omega
      · refine s_ifs ?_; dsimp only [we, wes, wbo, Option.toList, g0, g1, g2, g3, g4, g5, g6, g7, g8, g9, g10, g11, List.set_cons_zero, List.set_cons_succ, onDef, mthQ, methP, asI, asB, slQ, nn, binP, cmpQ, cmpP, subP, bfP, augP, inStr, shorts, Gl.val, tn0, tn1, tn2, tnl0, tnl1, tnl2, tnl3]
        refine i_s (fun h => ?_) (fun h => ?_)
        · refine s_assign ?_; dsimp only [we, wes, wbo, Option.toList, g0, g1, g2, g3, g4, g5, g6, g7, g8, g9, g10, g11, List.set_cons_zero, List.set_cons_succ, onDef, mthQ, methP, asI, asB, slQ, nn, binP, cmpQ, cmpP, subP, bfP, augP, inStr, shorts, Gl.val, tn0, tn1, tn2, tnl0, tnl1, tnl2, tnl3]
          refine take_u (m := 3) (by omega) (by decide) fun z hz => ?_
          obtain ⟨s', hs', e⟩ := pick (l := [[92], [110], [36]]) (z := z) hz
          obtain ⟨s, rfl, hs⟩ : ∃ s, s' = [s] ∧ (s = 92 ∨ (s ≠ 92 ∧ s ≠ o ∧ s ≠ c)) := by
            simp only [List.mem_cons, List.not_mem_nil, or_false] at hs'
            rcases hs' with rfl | rfl | rfl
            · exact ⟨_, rfl, .inl rfl⟩
            · exact ⟨_, rfl, .inr ⟨by decide, f5 110 (by decide)⟩⟩
            · exact ⟨_, rfl, .inr ⟨by decide, f5 36 (by decide)⟩⟩
          refine ⟨_, e, ?_⟩
          refine s_aug ?_; dsimp only [we, wes, wbo, Option.toList, g0, g1, g2, g3, g4, g5, g6, g7, g8, g9, g10, g11, List.set_cons_zero, List.set_cons_succ, onDef, mthQ, methP, asI, asB, slQ, nn, binP, cmpQ, cmpP, subP, bfP, augP, inStr, shorts, Gl.val, tn0, tn1, tn2, tnl0, tnl1, tnl2, tnl3]
          refine ⟨szle (by (try simp only [List.length_append, List.length_cons, List.length_nil]); omega), szle (by (try simp only [List.length_append, List.length_cons, List.length_nil]); omega), ?_⟩
          refine s_aug ?_; dsimp only [we, wes, wbo, Option.toList, g0, g1, g2, g3, g4, g5, g6, g7, g8, g9, g10, g11, List.set_cons_zero, List.set_cons_succ, onDef, mthQ, methP, asI, asB, slQ, nn, binP, cmpQ, cmpP, subP, bfP, augP, inStr, shorts, Gl.val, tn0, tn1, tn2, tnl0, tnl1, tnl2, tnl3]
          rcases hs with rfl | ⟨hs1, hs2, hs3⟩
          · refine i_t rfl ⟨szle (by (try simp only [List.length_append, List.length_cons, List.length_nil]); omega), ?_⟩
            refine s_aug ?_; dsimp only [we, wes, wbo, Option.toList, g0, g1, g2, g3, g4, g5, g6, g7, g8, g9, g10, g11, List.set_cons_zero, List.set_cons_succ, onDef, mthQ, methP, asI, asB, slQ, nn, binP, cmpQ, cmpP, subP, bfP, augP, inStr, shorts, Gl.val, tn0, tn1, tn2, tnl0, tnl1, tnl2, tnl3]
            refine ⟨szle (by (try simp only [List.length_append, List.length_cons, List.length_nil]); omega), szle (by (try simp only [List.length_append, List.length_cons, List.length_nil]); omega), ?_⟩
            refine s_join (s_join (s_join (s_nil ?_)))
            dsimp only [seqK, loopK, leave]
            refine again _ _ _ _ _ _ _ (.two f3 f4) ?_ ?_ ?_ (by omega) (by omega) <;> simp only [List.length_append, List.length_cons, List.length_nil] <;> omega
          · refine i_f (by simpa using hs1) ⟨szle (by (try simp only [List.length_append, List.length_cons, List.length_nil]); omega), szle (by (try simp only [List.length_append, List.length_cons, List.length_nil]); omega), ?_⟩
            refine s_aug ?_; dsimp only [we, wes, wbo, Option.toList, g0, g1, g2, g3, g4, g5, g6, g7, g8, g9, g10, g11, List.set_cons_zero, List.set_cons_succ, onDef, mthQ, methP, asI, asB, slQ, nn, binP, cmpQ, cmpP, subP, bfP, augP, inStr, shorts, Gl.val, tn0, tn1, tn2, tnl0, tnl1, tnl2, tnl3]
            refine ⟨szle (by (try simp only [List.length_append, List.length_cons, List.length_nil]); omega), szle (by (try simp only [List.length_append, List.length_cons, List.length_nil]); omega), ?_⟩
            refine s_join (s_join (s_join (s_nil ?_)))
            dsimp only [seqK, loopK, leave]
            refine again _ _ _ _ _ _ _ (.other hs1 hs2 hs3) ?_ ?_ ?_ (by omega) (by omega) <;> simp only [List.length_append, List.length_cons, List.length_nil] <;> omega
        · refine s_assign ?_; dsimp only [we, wes, wbo, Option.toList, g0, g1, g2, g3, g4, g5, g6, g7, g8, g9, g10, g11, List.set_cons_zero, List.set_cons_succ, onDef, mthQ, methP, asI, asB, slQ, nn, binP, cmpQ, cmpP, subP, bfP, augP, inStr, shorts, Gl.val, tn0, tn1, tn2, tnl0, tnl1, tnl2, tnl3]
          refine take_u (m := 8) (by omega) (by decide) fun z hz => ?_
          have hz8 : z < [97, 66, 48, 32, 95, 46, 59, 10].length := hz
          have hm8 : ([97, 66, 48, 32, 95, 46, 59, 10] : List Nat)[z]? = some [97, 66, 48, 32, 95, 46, 59, 10][z] := List.getElem?_eq_getElem hz8
          have hmem := List.getElem_mem hz8
          generalize ([97, 66, 48, 32, 95, 46, 59, 10] : List Nat)[z] = s at hm8 hmem
          have hs1 : s ≠ 92 := by rintro rfl; revert hmem; decide
          obtain ⟨hs2, hs3⟩ := f5 s (List.mem_append_left [110, 36, 116] hmem)
          refine ⟨Int.natCast_nonneg _, s, hm8, ?_⟩
          refine s_aug ?_; dsimp only [we, wes, wbo, Option.toList, g0, g1, g2, g3, g4, g5, g6, g7, g8, g9, g10, g11, List.set_cons_zero, List.set_cons_succ, onDef, mthQ, methP, asI, asB, slQ, nn, binP, cmpQ, cmpP, subP, bfP, augP, inStr, shorts, Gl.val, tn0, tn1, tn2, tnl0, tnl1, tnl2, tnl3]
          refine ⟨szle (by (try simp only [List.length_append, List.length_cons, List.length_nil]); omega), ?_⟩
          refine s_aug ?_; dsimp only [we, wes, wbo, Option.toList, g0, g1, g2, g3, g4, g5, g6, g7, g8, g9, g10, g11, List.set_cons_zero, List.set_cons_succ, onDef, mthQ, methP, asI, asB, slQ, nn, binP, cmpQ, cmpP, subP, bfP, augP, inStr, shorts, Gl.val, tn0, tn1, tn2, tnl0, tnl1, tnl2, tnl3]
          refine ⟨szle (by (try simp only [List.length_append, List.length_cons, List.length_nil]); omega), ?_⟩
          refine s_aug ?_; dsimp only [we, wes, wbo, Option.toList, g0, g1, g2, g3, g4, g5, g6, g7, g8, g9, g10, g11, List.set_cons_zero, List.set_cons_succ, onDef, mthQ, methP, asI, asB, slQ, nn, binP, cmpQ, cmpP, subP, bfP, augP, inStr, shorts, Gl.val, tn0, tn1, tn2, tnl0, tnl1, tnl2, tnl3]
          refine ⟨szle (by (try simp only [List.length_append, List.length_cons, List.length_nil]); omega), ?_⟩
          refine s_join (s_join (s_join (s_nil ?_)))
          dsimp only [seqK, loopK, leave]
          refine again _ _ _ _ _ _ _ (.one hs1 hs2 hs3) ?_ ?_ ?_ (by omega) (by omega) <;> simp only [List.length_append, List.length_cons, List.length_nil] <;> omega
  · rintro σ O' ⟨raw, q, k', a', m, s7, s8, s9, s10, rfl, rfl, hp, hm, h1, h2, h3, h4, h5⟩
    rw [List.length_nil] at hm
    have hm4 : m * (1 + T) ≤ 4 * (1 + T) := Nat.mul_le_mul_right _ (by omega)
    have hmB : m * (2 + B) ≤ 4 * (2 + B) := Nat.mul_le_mul_right _ (by omega)
    refine s_ret ?_; dsimp only [we, wes, wbo, Option.toList, g0, g1, g2, g3, g4, g5, g6, g7, g8, g9, g10, g11, List.set_cons_zero, List.set_cons_succ, onDef, mthQ, methP, asI, asB, slQ, nn, binP, cmpQ, cmpP, subP, bfP, augP, inStr, shorts, Gl.val, tn0, tn1, tn2, tnl0, tnl1, tnl2, tnl3]
    exact .tape hL2 hne (hK raw q k' a' hp (by omega) (by omega) (by omega) h4 (by omega))
theorem inner_c (N : Nat) : InnerOk (N + 5) 3 681 680 := by
  have h0 : InnerOk (N + 2) 0 9 8 := inner_step (N := N) (d := 0) (T := 1) (B := 0) (.inl rfl) (by decide) (by decide)
  have h1 : InnerOk (N + 3) 1 41 40 := inner_step (N := N + 1) (d := 1) (T := 9) (B := 8) (.inr h0) (by decide) (by decide)
  have h2 : InnerOk (N + 4) 2 169 168 := inner_step (N := N + 2) (d := 2) (T := 41) (B := 40) (.inr h1) (by decide) (by decide)
  exact inner_step (N := N + 3) (d := 3) (T := 169) (B := 168) (.inr h2) (by decide) (by decide)

end Mine
end
section
open PySem PySem.W PySem.Calls PyProof.Rows
set_option Elab.async false
set_option maxRecDepth 8000
set_option maxHeartbeats 2000000
set_option linter.all false
namespace Mine
section
variable {n : Nat} {O : MH} {K : V → MH → Prop} {E : Int → MH → Prop}
theorem refused_c {t : List Nat} {p o c : Nat} (hp : t[p]? = some o) (hc : clo [o] = [c]) (hc2 : c ≠ 92) (ho2 : o ≠ 92) (hz : t.length ≤ 100000)
    (hs : scan c o 1 (t.drop (p + 1)) = none) (k : K (.int (1 + cnt (t.take p) [10])) O) : Hold (CC (n + 3) .refused [.str t, .int p] O K E) := by
  refine ⟨⟨rfl, fun L hL => Hold.out ?_⟩⟩; dsimp only [start, names, ar, List.length_cons, List.length_nil, Nat.zero_add, Nat.reduceAdd, Nat.reduceSub, Nat.sub_self, List.replicate, List.append_nil, List.cons_append, List.nil_append]
  refine s_try ?_
  refine s_expr ?_; dsimp only [we, wes, wbo, Option.toList, g0, g1, g2, g3, g4, g5, g6, g7, g8, g9, g10, g11, List.set_cons_zero, List.set_cons_succ, onDef, mthQ, methP, asI, asB, slQ, nn, binP, cmpQ, cmpP, subP, bfP, augP, inStr, shorts, Gl.val, tn0, tn1, tn2, tnl0, tnl1, tnl2, tnl3]
  refine delimited_c hp hc hc2 ho2 hz ?_
  rw [hs]
  rintro _ rfl
  dsimp only [we, wes, wbo, Option.toList, g0, g1, g2, g3, g4, g5, g6, g7, g8, g9, g10, g11, List.set_cons_zero, List.set_cons_succ, onDef, mthQ, methP, asI, asB, slQ, nn, binP, cmpQ, cmpP, subP, bfP, augP, inStr, shorts, Gl.val, tn0, tn1, tn2, tnl0, tnl1, tnl2, tnl3]
  exact ⟨rfl, .pure hL k⟩
theorem opens {z : Nat} (h : z < 8) : ∃ o c, ([40, 123, 60, 91, 39, 47, 124, 33] : List Nat)[z]? = some o ∧ Dl o c := by
  have : ∀ z : Fin 8, ∃ p ∈ delims, ([40, 123, 60, 91, 39, 47, 124, 33] : List Nat)[z.1]? = some p.1 := by decide
  obtain ⟨p, hp, e⟩ := this ⟨z, h⟩
  exact ⟨p.1, p.2, e, ⟨hp⟩⟩
theorem quotes_c {t : Addr} {tp : List Int} {a : Nat} (ha : a ≤ 8000) (k : ∀ a', a' ≤ a + 700 → K (.bool true) (upd O t (tapeC tp a'))) : Hold (CC (n + 6) .quotes [.lst t] (upd O t (tapeC tp a)) K E) := by
  refine ⟨⟨rfl, fun L hL => Hold.out ?_⟩⟩; dsimp only [start, names, ar, List.length_cons, List.length_nil, Nat.zero_add, Nat.reduceAdd, Nat.reduceSub, Nat.sub_self, List.replicate, List.append_nil, List.cons_append, List.nil_append]
  have hne : t ≠ L := by rintro rfl; rw [upd_self] at hL; cases hL
  have hL2 : O L = none := by rw [← hL, upd_ne _ (Ne.symm hne)]
  rw [upd_comm hne]
  refine s_assign ?_; dsimp only [we, wes, wbo, Option.toList, g0, g1, g2, g3, g4, g5, g6, g7, g8, g9, g10, g11, List.set_cons_zero, List.set_cons_succ, onDef, mthQ, methP, asI, asB, slQ, nn, binP, cmpQ, cmpP, subP, bfP, augP, inStr, shorts, Gl.val, tn0, tn1, tn2, tnl0, tnl1, tnl2, tnl3]
  refine take_u (m := 8) (by omega) (by decide) fun z hz => ?_
  obtain ⟨o, c, ho, hdl⟩ := opens hz
  obtain ⟨f1, f2, f3, f4, f5⟩ := hdl.facts
  refine ⟨Int.natCast_nonneg _, o, ho, ?_⟩
  refine s_assign ?_; dsimp only [we, wes, wbo, Option.toList, g0, g1, g2, g3, g4, g5, g6, g7, g8, g9, g10, g11, List.set_cons_zero, List.set_cons_succ, onDef, mthQ, methP, asI, asB, slQ, nn, binP, cmpQ, cmpP, subP, bfP, augP, inStr, shorts, Gl.val, tn0, tn1, tn2, tnl0, tnl1, tnl2, tnl3]
  refine take_u (m := 3) (by omega) (by decide) fun z hz => ?_
  obtain ⟨ah, hah, e⟩ := pick (l := [[], [120, 10], [10, 10, 40]]) (z := z) hz
  have hal : ah.length ≤ 3 := by
    revert ah
    have : ∀ ah ∈ ([[], [120, 10], [10, 10, 40]] : List (List Nat)), ah.length ≤ 3 := by decide
    exact fun ah h _ => this ah h
  refine ⟨_, e, ?_⟩
  refine s_assign ?_; dsimp only [we, wes, wbo, Option.toList, g0, g1, g2, g3, g4, g5, g6, g7, g8, g9, g10, g11, List.set_cons_zero, List.set_cons_succ, onDef, mthQ, methP, asI, asB, slQ, nn, binP, cmpQ, cmpP, subP, bfP, augP, inStr, shorts, Gl.val, tn0, tn1, tn2, tnl0, tnl1, tnl2, tnl3]
  refine (inner_c n).go hdl (by omega) fun raw q k' a' hp y1 y2 y3 y4 y5 => ?_
  refine s_assign ?_; dsimp only [we, wes, wbo, Option.toList, g0, g1, g2, g3, g4, g5, g6, g7, g8, g9, g10, g11, List.set_cons_zero, List.set_cons_succ, onDef, mthQ, methP, asI, asB, slQ, nn, binP, cmpQ, cmpP, subP, bfP, augP, inStr, shorts, Gl.val, tn0, tn1, tn2, tnl0, tnl1, tnl2, tnl3]
  refine ⟨szle (by (try simp only [List.length_append, List.length_cons, List.length_nil]); omega), by decide, _, rfl, ?_⟩
  dsimp only [we, wes, wbo, Option.toList, g0, g1, g2, g3, g4, g5, g6, g7, g8, g9, g10, g11, List.set_cons_zero, List.set_cons_succ, onDef, mthQ, methP, asI, asB, slQ, nn, binP, cmpQ, cmpP, subP, bfP, augP, inStr, shorts, Gl.val, tn0, tn1, tn2, tnl0, tnl1, tnl2, tnl3]
  refine ⟨szle (by (try simp only [List.length_append, List.length_cons, List.length_nil]); omega), ends_c ⟨_, f1, ?_⟩⟩
  refine ⟨szle (by (try simp only [List.length_append, List.length_cons, List.length_nil]); omega), szle (by (try simp only [List.length_append, List.length_cons, List.length_nil]); omega), ends_c ⟨_, f1, ?_⟩⟩
  refine ⟨szle (by (try simp only [List.length_append, List.length_cons, List.length_nil]); omega), ?_⟩
  have tl : (ah ++ [o] ++ raw ++ [c] ++ [116, 97, 105, 108] ++ [c]).length = ah.length + raw.length + 7 := by simp only [List.length_append, List.length_cons, List.length_nil]; omega
  have td : (ah ++ [o] ++ raw ++ [c] ++ [116, 97, 105, 108] ++ [c]).drop (ah.length + 1) = raw ++ (c :: [116, 97, 105, 108, c]) := by
    rw [show ah ++ [o] ++ raw ++ [c] ++ [116, 97, 105, 108] ++ [c] = (ah ++ [o]) ++ (raw ++ (c :: [116, 97, 105, 108, c])) by simp]
    exact List.drop_left' (by simp)
  have tg : (ah ++ [o] ++ raw ++ [c] ++ [116, 97, 105, 108] ++ [c])[ah.length]? = some o := by
    rw [show ah ++ [o] ++ raw ++ [c] ++ [116, 97, 105, 108] ++ [c] = ah ++ (o :: (raw ++ (c :: [116, 97, 105, 108, c]))) by simp]
    rw [List.getElem?_append_right (Nat.le_refl _), Nat.sub_self]; rfl
  have tt : ((ah ++ [o] ++ raw ++ [c] ++ [116, 97, 105, 108] ++ [c]).take (ah.length + 1 + raw.length)).drop (ah.length + 1) = raw := by
    rw [List.drop_take, td, Nat.add_sub_cancel_left]
    exact List.take_left' rfl
  generalize ah ++ [o] ++ raw ++ [c] ++ [116, 97, 105, 108] ++ [c] = tx at tl td tg tt ⊢
  have hsc : scan c o 1 (tx.drop (ah.length + 1)) = some raw.length := by
    rw [td, hp.scan 1 _ (by decide), scan_close f4]
    simp
  refine s_ifs ?_; dsimp only [we, wes, wbo, Option.toList, g0, g1, g2, g3, g4, g5, g6, g7, g8, g9, g10, g11, List.set_cons_zero, List.set_cons_succ, onDef, mthQ, methP, asI, asB, slQ, nn, binP, cmpQ, cmpP, subP, bfP, augP, inStr, shorts, Gl.val, tn0, tn1, tn2, tnl0, tnl1, tnl2, tnl3]
  refine delimited_c tg f2 f4 f3 (by omega) ?_
  rw [hsc]
  dsimp only [we, wes, wbo, Option.toList, g0, g1, g2, g3, g4, g5, g6, g7, g8, g9, g10, g11, List.set_cons_zero, List.set_cons_succ, onDef, mthQ, methP, asI, asB, slQ, nn, binP, cmpQ, cmpP, subP, bfP, augP, inStr, shorts, Gl.val, tn0, tn1, tn2, tnl0, tnl1, tnl2, tnl3]
  refine ⟨by decide, _, rfl, ?_⟩
  dsimp only [we, wes, wbo, Option.toList, g0, g1, g2, g3, g4, g5, g6, g7, g8, g9, g10, g11, List.set_cons_zero, List.set_cons_succ, onDef, mthQ, methP, asI, asB, slQ, nn, binP, cmpQ, cmpP, subP, bfP, augP, inStr, shorts, Gl.val, tn0, tn1, tn2, tnl0, tnl1, tnl2, tnl3]
  rw [tt]
  refine i_f ?_ (s_join ?_)
  · have : (((ah.length + 1 + raw.length : Nat) : Int) + 1 == (tx.length : Int) - 5) = true := by
      rw [beq_iff_eq]; omega
    rw [this]; simp
  refine s_ifs ?_; dsimp only [we, wes, wbo, Option.toList, g0, g1, g2, g3, g4, g5, g6, g7, g8, g9, g10, g11, List.set_cons_zero, List.set_cons_succ, onDef, mthQ, methP, asI, asB, slQ, nn, binP, cmpQ, cmpP, subP, bfP, augP, inStr, shorts, Gl.val, tn0, tn1, tn2, tnl0, tnl1, tnl2, tnl3]
  refine ⟨by decide, _, rfl, readq_c (by omega) ⟨by decide, _, rfl, ?_⟩⟩
  have hq : ung [o] (clo [o]) true raw = q := by
    have := hp.qt []
    rw [List.append_nil] at this
    rw [f2, this]; simp [ung]
  have hk : ung [o] (clo [o]) false raw = k' := by
    have := hp.kt []
    rw [List.append_nil] at this
    rw [f2, this]; simp [ung]
  rw [hq]
  dsimp only [we, wes, wbo, Option.toList, g0, g1, g2, g3, g4, g5, g6, g7, g8, g9, g10, g11, List.set_cons_zero, List.set_cons_succ, onDef, mthQ, methP, asI, asB, slQ, nn, binP, cmpQ, cmpP, subP, bfP, augP, inStr, shorts, Gl.val, tn0, tn1, tn2, tnl0, tnl1, tnl2, tnl3]
  refine i_f (by simp) ?_
  refine ⟨by decide, _, rfl, ung_c (by omega) ⟨by decide, _, rfl, ?_⟩⟩
  rw [hk]
  dsimp only [we, wes, wbo, Option.toList, g0, g1, g2, g3, g4, g5, g6, g7, g8, g9, g10, g11, List.set_cons_zero, List.set_cons_succ, onDef, mthQ, methP, asI, asB, slQ, nn, binP, cmpQ, cmpP, subP, bfP, augP, inStr, shorts, Gl.val, tn0, tn1, tn2, tnl0, tnl1, tnl2, tnl3]
  refine i_f (by simp) (i_f (by simp) (s_join ?_))
  refine s_ret ?_; dsimp only [we, wes, wbo, Option.toList, g0, g1, g2, g3, g4, g5, g6, g7, g8, g9, g10, g11, List.set_cons_zero, List.set_cons_succ, onDef, mthQ, methP, asI, asB, slQ, nn, binP, cmpQ, cmpP, subP, bfP, augP, inStr, shorts, Gl.val, tn0, tn1, tn2, tnl0, tnl1, tnl2, tnl3]
  refine ⟨szle (by (try simp only [List.length_append, List.length_cons, List.length_nil]); omega), by decide, _, rfl, ?_⟩
  dsimp only [we, wes, wbo, Option.toList, g0, g1, g2, g3, g4, g5, g6, g7, g8, g9, g10, g11, List.set_cons_zero, List.set_cons_succ, onDef, mthQ, methP, asI, asB, slQ, nn, binP, cmpQ, cmpP, subP, bfP, augP, inStr, shorts, Gl.val, tn0, tn1, tn2, tnl0, tnl1, tnl2, tnl3]
  refine ⟨szle (by (try simp only [List.length_append, List.length_cons, List.length_nil]); omega), ?_⟩
  have ug : (ah ++ [o] ++ raw)[ah.length]? = some o := by
    rw [List.append_assoc, List.getElem?_append_right (Nat.le_refl _), Nat.sub_self]; rfl
  have ud : (ah ++ [o] ++ raw).drop (ah.length + 1) = raw := List.drop_left' (by simp)
  have ut : (ah ++ [o] ++ raw).take ah.length = ah := by rw [List.append_assoc]; exact List.take_left' rfl
  refine refused_c ug f2 f4 f3 (by simp only [List.length_append, List.length_cons, List.length_nil]; omega) ?_ ?_
  · have := hp.scan 1 [] (by decide)
    rw [List.append_nil] at this
    rw [ud, this]; simp [scan]
  · rw [ut]
    dsimp only [we, wes, wbo, Option.toList, g0, g1, g2, g3, g4, g5, g6, g7, g8, g9, g10, g11, List.set_cons_zero, List.set_cons_succ, onDef, mthQ, methP, asI, asB, slQ, nn, binP, cmpQ, cmpP, subP, bfP, augP, inStr, shorts, Gl.val, tn0, tn1, tn2, tnl0, tnl1, tnl2, tnl3]
    rw [beq_self_eq_true]
    exact .tape hL2 hne (k a' (by omega))
end

end Mine
end
section
open PySem PySem.W PySem.Calls PyProof.Rows
set_option Elab.async false
set_option maxRecDepth 8000
set_option maxHeartbeats 2000000
set_option linter.all false
namespace Mine
theorem Back.drop {O O' : MH} {L a : Addr} {K : V → MH → Prop} {v : V} {c : Cell} (h : Back O L K v O') (hv : ∀ x, v ≠ .lst x) (ha : O' a = none) (ho : O a = none) : Back O L K v (upd O' a c) := by
  obtain ⟨O'', hs, hL, hk, h⟩ := h
  refine ⟨O'', fun b => ?_, hL, fun b hb => ?_, ?_⟩
  · by_cases q : b = a
    · subst q; exact .inl (hs.non ha)
    · rw [upd_ne _ q]; exact hs b
  · rw [upd_ne _ (by rintro rfl; exact hb ho)]; exact hk b hb
  · rcases h with h | ⟨x, l, e, _⟩
    · exact .inl h
    · exact absurd e (hv x)
theorem upd_mid {O : MH} {a b : Addr} {c d e : Cell} (h : a ≠ b) : upd (upd (upd O a c) b d) a e = upd (upd O a e) b d := by
  rw [upd_comm h, upd2, upd_comm (Ne.symm h)]
theorem ne2 {O : MH} {a b : Addr} {c : Cell} (h : upd O a c b = none) : b ≠ a ∧ O b = none := by
  have : b ≠ a := by rintro rfl; rw [upd_self] at h; cases h
  rw [upd_ne _ this] at h
  exact ⟨this, h⟩
theorem at_last {α : Type} (l : List α) (v : α) : at? (l ++ [v]) (-1) = some v := by
  unfold at?
  rw [if_neg (by decide), if_pos (by simp; omega), show (-1 + ((l ++ [v]).length : Int)).toNat = l.length by simp; omega]
  simp
theorem strs_map : ∀ l : List (List Nat), strsOf (l.map V.str) = some l
  | [] => rfl
  | x :: l => by show (strsOf (l.map V.str)).map (x :: ·) = _; rw [strs_map l]; rfl
theorem asL_lst {O : MH} {a : Addr} {l : List V} (h : O a = some (.list l)) : asL O (.lst a) = some l := by unfold asL; dsimp only; rw [h]
noncomputable abbrev wordL : List (List Nat) := [[97], [66, 58, 58, 99], [36, 120], [49, 44, 50], [35]]
noncomputable abbrev sepL : List (List Nat) := [[32], [10], [32, 9, 32], [13, 10]]
structure Wd (tx : List Nat) (ws : List (List Nat)) : Prop where
  safe : ∀ x ∈ tx, x ≠ 92
  split : ∀ rest, splitW (tx ++ rest) [] = ws ++ splitW rest []
theorem Wd.more {tx : List Nat} {ws : List (List Nat)} (h : Wd tx ws) {w s : List Nat} (hw : w ∈ wordL) (hs : s ∈ sepL) : Wd (tx ++ (w ++ s)) (ws ++ [w]) := by
  have h1 : ∀ w ∈ wordL, ∀ s ∈ sepL, ∀ x ∈ w ++ s, x ≠ 92 := by decide
  refine ⟨fun x hx => ?_, fun rest => ?_⟩
  · rcases List.mem_append.mp hx with q | q
    · exact h.safe x q
    · exact h1 w hw s hs x q
  · have key : splitW (w ++ s ++ rest) [] = w :: splitW rest [] := by
      simp only [wordL, sepL, List.mem_cons, List.not_mem_nil, or_false] at hw hs
      rcases hw with rfl | rfl | rfl | rfl | rfl <;> rcases hs with rfl | rfl | rfl | rfl <;> rfl
    rw [List.append_assoc, h.split, key]
    simp
theorem ung_safe {o c : List Nat} {p : Bool} {rest : List Nat} : ∀ {tx : List Nat}, (∀ x ∈ tx, x ≠ 92) → ung o c p (tx ++ rest) = tx ++ ung o c p rest
  | [], _ => rfl
  | x :: tx, h => by
    rw [List.cons_append, ung_x (h x (.head _)), ung_safe fun y hy => h y (.tail _ hy)]
    rfl
section
variable {n : Nat} {O : MH} {K : V → MH → Prop} {E : Int → MH → Prop}
theorem words_c {t : Addr} {tp : List Int} {a : Nat} (ha : a ≤ 8000) (k : ∀ a', a' ≤ a + 20 → K (.bool true) (upd O t (tapeC tp a'))) : Hold (CC (n + 4) .words [.lst t] (upd O t (tapeC tp a)) K E) := by
  refine ⟨⟨rfl, fun L hL => Hold.out ?_⟩⟩; dsimp only [start, names, ar, List.length_cons, List.length_nil, Nat.zero_add, Nat.reduceAdd, Nat.reduceSub, Nat.sub_self, List.replicate, List.append_nil, List.cons_append, List.nil_append]
  have hne : t ≠ L := by rintro rfl; rw [upd_self] at hL; cases hL
  have hL2 : O L = none := by rw [← hL, upd_ne _ (Ne.symm hne)]
  rw [upd_comm hne]
  refine s_assign ?_; dsimp only [we, wes, wbo, Option.toList, g0, g1, g2, g3, g4, g5, g6, g7, g8, g9, g10, g11, List.set_cons_zero, List.set_cons_succ, onDef, mthQ, methP, asI, asB, slQ, nn, binP, cmpQ, cmpP, subP, bfP, augP, inStr, shorts, Gl.val, tn0, tn1, tn2, tnl0, tnl1, tnl2, tnl3]
  refine take_u (m := 2) (by omega) (by decide) fun z hz => ?_
  have h0 : ∃ tx, (if (z : Int) = 0 then [] else [32]) = tx ∧ Wd tx [] ∧ tx.length ≤ 1 := by
    by_cases q : (z : Int) = 0
    · rw [if_pos q]; exact ⟨_, rfl, ⟨by simp, fun _ => rfl⟩, by simp⟩
    · rw [if_neg q]; exact ⟨_, rfl, ⟨by simp, fun _ => rfl⟩, by simp⟩
  obtain ⟨tx, e0, hwd, hl⟩ := h0
  refine ⟨by omega, by omega, ?_⟩
  rw [e0]
  refine s_assign ?_; dsimp only [we, wes, wbo, Option.toList, g0, g1, g2, g3, g4, g5, g6, g7, g8, g9, g10, g11, List.set_cons_zero, List.set_cons_succ, onDef, mthQ, methP, asI, asB, slQ, nn, binP, cmpQ, cmpP, subP, bfP, augP, inStr, shorts, Gl.val, tn0, tn1, tn2, tnl0, tnl1, tnl2, tnl3]
  intro w hw
  obtain ⟨hwt, hw'⟩ := ne2 hw
  obtain ⟨hwL, hwO⟩ := ne2 hw'
  rw [upd_comm (Ne.symm hwt)]
  refine s_for ?_
  dsimp only [we, wes, wbo, Option.toList, g0, g1, g2, g3, g4, g5, g6, g7, g8, g9, g10, g11, List.set_cons_zero, List.set_cons_succ, onDef, mthQ, methP, asI, asB, slQ, nn, binP, cmpQ, cmpP, subP, bfP, augP, inStr, shorts, Gl.val, tn0, tn1, tn2, tnl0, tnl1, tnl2, tnl3]
  refine take_u (m := 5) (by omega) (by decide) fun r hr => ?_
  dsimp only [we, wes, wbo, Option.toList, g0, g1, g2, g3, g4, g5, g6, g7, g8, g9, g10, g11, List.set_cons_zero, List.set_cons_succ, onDef, mthQ, methP, asI, asB, slQ, nn, binP, cmpQ, cmpP, subP, bfP, augP, inStr, shorts, Gl.val, tn0, tn1, tn2, tnl0, tnl1, tnl2, tnl3]
  refine ⟨_, rngItems r (by omega), fun l σ O' => ∃ (tx : List Nat) (ws : List (List Nat)) (a' m : Nat) (s3 : V), σ = [.lst t, .str tx, .lst w, s3] ∧ O' = upd (upd (upd O L .frame) w (.list (ws.map .str))) t (tapeC tp a') ∧ Wd tx ws ∧
    m + l.length ≤ 4 ∧ tx.length ≤ 1 + m * 7 ∧ ws.length ≤ m ∧ a' ≤ a + 2 + m * 2, ⟨tx, [], a + 1 + 1, 0, .undef, rfl, rfl, hwd, by simp; omega, by omega, by simp, by omega⟩, ?_, ?_⟩
  · rintro x l σ O' ⟨tx, ws, a', m, s3, rfl, rfl, hwd, hm, h1, h2, h3⟩
    rw [List.length_cons] at hm
    refine s_expr ?_; dsimp only [we, wes, wbo, Option.toList, g0, g1, g2, g3, g4, g5, g6, g7, g8, g9, g10, g11, List.set_cons_zero, List.set_cons_succ, onDef, mthQ, methP, asI, asB, slQ, nn, binP, cmpQ, cmpP, subP, bfP, augP, inStr, shorts, Gl.val, tn0, tn1, tn2, tnl0, tnl1, tnl2, tnl3]
    refine ⟨⟨_, by rw [upd_ne _ hwt]; exact upd_self ..⟩, take_u (m := 5) (by omega) (by decide) fun z hz => ?_⟩
    obtain ⟨wd, hwm, e⟩ := pick (l := wordL) (z := z) hz
    refine ⟨_, e, _, by rw [upd_ne _ hwt]; exact upd_self .., Nat.lt_of_le_of_lt (m := 100000) (by rw [List.length_map]; omega) (by decide), ?_⟩
    rw [upd_mid hwt]
    refine s_aug ?_; dsimp only [we, wes, wbo, Option.toList, g0, g1, g2, g3, g4, g5, g6, g7, g8, g9, g10, g11, List.set_cons_zero, List.set_cons_succ, onDef, mthQ, methP, asI, asB, slQ, nn, binP, cmpQ, cmpP, subP, bfP, augP, inStr, shorts, Gl.val, tn0, tn1, tn2, tnl0, tnl1, tnl2, tnl3]
    refine ⟨_, _, by rw [upd_ne _ hwt]; exact upd_self .., at_last _ _, take_u (m := 4) (by omega) (by decide) fun z hz => ?_⟩
    obtain ⟨sp, hsm, e⟩ := pick (l := sepL) (z := z) hz
    have l1 : wd.length ≤ 4 := (by decide : ∀ w ∈ wordL, w.length ≤ 4) wd hwm
    have l2 : sp.length ≤ 3 := (by decide : ∀ w ∈ sepL, w.length ≤ 3) sp hsm
    refine ⟨_, e, szle (by (try simp only [List.length_append, List.length_cons, List.length_nil]); omega), szle (by (try simp only [List.length_append, List.length_cons, List.length_nil]); omega), ?_⟩
    refine s_nil ?_
    dsimp only [seqK, loopK, leave]
    exact ⟨_, ws ++ [wd], _, m + 1, _, rfl, by rw [List.map_append]; rfl, hwd.more hwm hsm, by omega, by simp only [List.length_append]; omega, by simp; omega, by omega⟩
  · rintro σ O' ⟨tx, ws, a', m, s3, rfl, rfl, hwd, hm, h1, h2, h3⟩
    rw [List.length_nil] at hm
    have u1 : splitW (ung [92] (clo [92]) true tx) [] = ws := by
      have e1 := ung_safe (o := [92]) (c := clo [92]) (p := true) (rest := []) hwd.safe
      have e2 := hwd.split []
      rw [List.append_nil] at e1 e2
      rw [e1, show ung [92] (clo [92]) true [] = [] from rfl, List.append_nil, e2]
      exact List.append_nil _
    have u2 : splitW (ung [92] (clo [92]) true (tx ++ [122, 92, 92, 121])) [] = ws ++ [[122, 92, 121]] := by
      rw [ung_safe hwd.safe, hwd.split]
      rfl
    refine s_ret ?_; dsimp only [we, wes, wbo, Option.toList, g0, g1, g2, g3, g4, g5, g6, g7, g8, g9, g10, g11, List.set_cons_zero, List.set_cons_succ, onDef, mthQ, methP, asI, asB, slQ, nn, binP, cmpQ, cmpP, subP, bfP, augP, inStr, shorts, Gl.val, tn0, tn1, tn2, tnl0, tnl1, tnl2, tnl3]
    refine readqw_c (by omega) fun b hb => ?_
    obtain ⟨hbt, hb1⟩ := ne2 hb
    obtain ⟨hbw, hb2⟩ := ne2 hb1
    obtain ⟨hbL, hbO⟩ := ne2 hb2
    have lookw : ∀ c, upd (upd (upd (upd O L .frame) w (.list (ws.map .str))) t (tapeC tp a')) b c w = some (.list (ws.map .str)) := fun c => by
      rw [upd_ne _ (Ne.symm hbw), upd_ne _ hwt, upd_self]
    rw [u1]
    refine ⟨ws, ws, ?_, ?_, ?_⟩
    · rw [asL_lst (upd_self ..)]; exact strs_map ws
    · rw [asL_lst (lookw _)]; exact strs_map ws
    rw [beq_self_eq_true]
    refine i_f rfl ⟨szle (by (try simp only [List.length_append, List.length_cons, List.length_nil]); omega), readqw_c (by simp only [List.length_append, List.length_cons, List.length_nil]; omega) fun b2 hb' => ?_⟩
    obtain ⟨hcb, hc0⟩ := ne2 hb'
    obtain ⟨hct, hc1⟩ := ne2 hc0
    obtain ⟨hcw, hc2⟩ := ne2 hc1
    obtain ⟨hcL, hcO⟩ := ne2 hc2
    rw [u2]
    refine ⟨ws.map .str, [.str [122, 92, 121]], ?_, rfl, ?_, ?_⟩
    · exact asL_lst (by rw [upd_ne _ (Ne.symm hcw), lookw])
    · exact szle (by simp only [List.length_map, List.length_cons, List.length_nil]; omega)
    refine ⟨ws ++ [[122, 92, 121]], ws ++ [[122, 92, 121]], ?_, ?_, ?_⟩
    · rw [asL_lst (upd_self ..)]; exact strs_map _
    · show strsOf (ws.map V.str ++ [V.str [122, 92, 121]]) = _
      have := strs_map (ws ++ [[122, 92, 121]])
      rw [List.map_append] at this
      exact this
    rw [beq_self_eq_true]
    dsimp only [seqK, loopK, leave]
    have fin : Back (upd O t (tapeC tp a)) L K (.bool true) (upd (upd O L .frame) t (tapeC tp a')) := .tape hL2 hne (k a' (by omega))
    have fin2 := Back.drop (a := w) (c := .list (ws.map .str)) fin (by simp) (by rw [upd_ne _ hwt]; exact hw') (by rw [upd_ne _ hwt]; exact hwO)
    rw [upd_comm (Ne.symm hwt)] at fin2
    exact .drop (.drop fin2 (by simp) hb (by rw [upd_ne _ hbt]; exact hbO)) (by simp) hb' (by rw [upd_ne _ hct]; exact hcO)
end

end Mine
end
section
open PySem PySem.W PySem.Calls PyProof.Rows
set_option Elab.async false
set_option maxRecDepth 8000
set_option maxHeartbeats 2000000
set_option linter.all false
namespace Mine
/-- an expression without effect -/
structure Ev (C : CallP) (σ : List V) (O : MH) (e : X) (v : V) : Prop where
  go : ∀ {K : V → MH → Prop} {E : Int → MH → Prop}, K v O → we C σ e O K E
section
variable {C : CallP} {σ : List V} {O : MH}
theorem ev_loc {i : Nat} {p : Pos} {v : V} (h : gv σ i = v) (hd : v.isDef = true) : Ev C σ O (.loc i p) v :=
  ⟨fun k => by rw [we, h]; cases v <;> first | exact k | cases hd⟩
theorem ev_eqs {i : Nat} {p q r : Pos} {m s : List Nat} (h : gv σ i = .str m) : Ev C σ O (.cmp .Eq (.loc i p) (.str s q) r) (.bool (m == s)) :=
  ⟨fun k => by rw [we, we, h]; show we _ _ _ _ _ _; rw [we]; exact k⟩
theorem ev_eqi {i : Nat} {p q r : Pos} {m s : Int} (h : gv σ i = .int m) : Ev C σ O (.cmp .Eq (.loc i p) (.int s q) r) (.bool (m == s)) :=
  ⟨fun k => by rw [we, we, h]; show we _ _ _ _ _ _; rw [we]; exact k⟩
theorem ev_rng {i a b c : Nat} {p q r s : Pos} (h : gv σ i = .str [c]) : Ev C σ O (.cmp2 .LtE .LtE (.str [a] p) (.loc i q) (.str [b] r) s) (.bool (rangeB a b c)) :=
  ⟨fun k => by
    rw [we, we, we, h]
    show if (!ltL [c] [a]) = true then we _ _ _ _ _ _ else _
    rw [we, le1]
    unfold rangeB at k
    cases q : decide (a ≤ c) with
    | false => rw [q] at k; exact i_f rfl k
    | true =>
      rw [q] at k
      refine i_t rfl ?_
      have k' := k
      rw [Bool.true_and, ← le1] at k'
      exact k'⟩
theorem ev_and2 {x y : X} {a b : Bool} {p : Pos} (hx : Ev C σ O x (.bool a)) (hy : Ev C σ O y (.bool b)) : Ev C σ O (.boolop .And x (.cons y .nil) p) (.bool (a && b)) :=
  ⟨fun k => by
    rw [we]
    refine hx.go ?_; dsimp only [asB]
    cases a with
    | false => exact i_t rfl k
    | true => refine i_f rfl ?_; rw [wbo]; refine hy.go ?_; dsimp only [asB]; cases b <;> first | exact i_t rfl k | (refine i_f rfl ?_; rw [wbo]; exact k)⟩
theorem ev_and3 {x y z : X} {a b c : Bool} {p : Pos} (hx : Ev C σ O x (.bool a)) (hy : Ev C σ O y (.bool b)) (hz : Ev C σ O z (.bool c)) : Ev C σ O (.boolop .And x (.cons y (.cons z .nil)) p) (.bool (a && (b && c))) :=
  ⟨fun k => by
    rw [we]
    refine hx.go ?_; dsimp only [asB]
    cases a with
    | false => exact i_t rfl k
    | true =>
      refine i_f rfl ?_; rw [wbo]; refine hy.go ?_; dsimp only [asB]
      cases b with
      | false => exact i_t rfl k
      | true => refine i_f rfl ?_; rw [wbo]; refine hz.go ?_; dsimp only [asB]; cases c <;> first | exact i_t rfl k | (refine i_f rfl ?_; rw [wbo]; exact k)⟩
theorem ev_or2 {x y : X} {a b : Bool} {p : Pos} (hx : Ev C σ O x (.bool a)) (hy : Ev C σ O y (.bool b)) : Ev C σ O (.boolop .Or x (.cons y .nil) p) (.bool (a || b)) :=
  ⟨fun k => by
    rw [we]
    refine hx.go ?_; dsimp only [asB]
    cases a with
    | true => exact i_t rfl k
    | false => refine i_f rfl ?_; rw [wbo]; refine hy.go ?_; dsimp only [asB]; cases b <;> first | exact i_t rfl k | (refine i_f rfl ?_; rw [wbo]; exact k)⟩
theorem ev_or4 {x y z u : X} {a b c d : Bool} {p : Pos} (hx : Ev C σ O x (.bool a)) (hy : Ev C σ O y (.bool b)) (hz : Ev C σ O z (.bool c)) (hu : Ev C σ O u (.bool d)) : Ev C σ O (.boolop .Or x (.cons y (.cons z (.cons u .nil))) p) (.bool (a || (b || (c || d)))) :=
  ⟨fun k => by
    rw [we]
    refine hx.go ?_; dsimp only [asB]
    cases a with
    | true => exact i_t rfl k
    | false =>
      refine i_f rfl ?_; rw [wbo]; refine hy.go ?_; dsimp only [asB]
      cases b with
      | true => exact i_t rfl k
      | false =>
        refine i_f rfl ?_; rw [wbo]; refine hz.go ?_; dsimp only [asB]
        cases c with
        | true => exact i_t rfl k
        | false => refine i_f rfl ?_; rw [wbo]; refine hu.go ?_; dsimp only [asB]; cases d <;> first | exact i_t rfl k | (refine i_f rfl ?_; rw [wbo]; exact k)⟩
theorem ev_not {x : X} {a : Bool} {p : Pos} (hx : Ev C σ O x (.bool a)) : Ev C σ O (.not x p) (.bool (!a)) := ⟨fun k => by rw [we]; exact hx.go k⟩
theorem ev_ord {i c : Nat} {b : Int} {p q r s : Pos} (h : gv σ i = .str [c]) : Ev C σ O (.cmp .Lt (.bcall .ord p (.loc i q) r) (.int b s) s') (.bool (decide ((c : Int) < b))) :=
  ⟨fun k => by rw [we, we, we, h]; show we _ _ _ _ _ _; rw [we]; exact k⟩
theorem s_if {K : Fl → List V → MH → Prop} {E : Int → MH → Prop} {r : Sts} {t : X} {b o : Sts} {p : Pos} {c : Bool} (h : Ev C σ O t (.bool c)) (k1 : c = true → Hold (wsb C b σ O (seqK C r K E) E)) (k2 : c = false → Hold (wsb C o σ O (seqK C r K E) E)) : Hold (wsb C (.cons (.ifs t b o p) r) σ O K E) :=
  s_ifs (h.go (i_s k1 k2))
end
noncomputable abbrev markL : List (List Nat) := [[85], [76], [81], [117], [108], [70]]
noncomputable def g1c (m : List Nat) (i c : Nat) : List Nat := if m = [117] then (if i = 0 then f1 [85] c else [c]) else if m = [108] then (if i = 0 then f1 [76] c else [c]) else f1 m c
theorem cas_snoc (m x : List Nat) (c : Nat) : cas m (x ++ [c]) = cas m x ++ g1c m x.length c := by
  unfold cas g1c
  cases x with
  | nil => by_cases h1 : m = [117] <;> by_cases h2 : m = [108] <;> simp [h1, h2]
  | cons y x => by_cases h1 : m = [117] <;> by_cases h2 : m = [108] <;> simp [h1, h2]
theorem g1c_spec {m : List Nat} {i c : Nat} (hm : m ∈ markL) : g1c m i c =
    if (((m == [85]) && rangeB 97 122 c) || ((m == [117]) && (rangeB 97 122 c && ((i : Int) == 0)))) = true then [c - 32]
    else if ((((m == [76]) || (m == [70])) && rangeB 65 90 c) || ((m == [108]) && (rangeB 65 90 c && ((i : Int) == 0)))) = true then [c + 32]
    else if ((m == [81]) && (!(rangeB 97 122 c || (rangeB 65 90 c || (rangeB 48 57 c || ([c] == [95])))) && decide ((c : Int) < 128))) = true then [92, c] else [c] := by
  have e1 : ((i : Int) == 0) = decide (i = 0) := by by_cases h : i = 0 <;> simp [h]
  have e2 : ([c] == [95]) = (c == 95) := by by_cases h : c = 95 <;> simp [h]
  have e3 : decide ((c : Int) < 128) = decide (c < 128) := by by_cases h : c < 128 <;> simp [h] <;> omega
  rw [e1, e2, e3]
  simp only [markL, List.mem_cons, List.not_mem_nil, or_false] at hm
  unfold g1c f1 upC loC isw
  generalize rangeB 97 122 c = p1
  generalize rangeB 65 90 c = p2
  generalize rangeB 48 57 c = p3
  generalize (c == 95) = p4
  rcases hm with rfl | rfl | rfl | rfl | rfl | rfl
  · cases p1 <;> rfl
  · cases p2 <;> rfl
  · show (if (!(p1 || p2 || p3 || p4) && decide (c < 128)) = true then [92, c] else [c]) = if (!(p1 || (p2 || (p3 || p4))) && decide (c < 128)) = true then [92, c] else [c]
    rw [Bool.or_assoc, Bool.or_assoc]
  · cases i <;> cases p1 <;> rfl
  · cases i <;> cases p2 <;> rfl
  · cases p2 <;> rfl
theorem g1c_len (m : List Nat) (i c : Nat) : (g1c m i c).length ≤ 2 := by
  unfold g1c
  repeat' split
  all_goals first | exact f1_len _ _ | simp
section
variable {n : Nat} {O : MH} {K : V → MH → Prop} {E : Int → MH → Prop}
theorem lcas_c {m x : List Nat} (hz : x.length ≤ 1000) (hm : m ∈ markL) (k : K (.str (cas m x)) O) : Hold (CC (n + 1) .cased [.str m, .str x] O K E) := by
  refine ⟨⟨rfl, fun L hL => Hold.out ?_⟩⟩; dsimp only [start, names, ar, List.length_cons, List.length_nil, Nat.zero_add, Nat.reduceAdd, Nat.reduceSub, Nat.sub_self, List.replicate, List.append_nil, List.cons_append, List.nil_append]
  refine s_assign ?_; dsimp only [we, wes, wbo, Option.toList, g0, g1, g2, g3, g4, g5, g6, g7, g8, g9, g10, g11, List.set_cons_zero, List.set_cons_succ, onDef, mthQ, methP, asI, asB, slQ, nn, binP, cmpQ, cmpP, subP, bfP, augP, inStr, shorts, Gl.val, tn0, tn1, tn2, tnl0, tnl1, tnl2, tnl3]
  refine s_for ?_
  dsimp only [we, wes, wbo, Option.toList, g0, g1, g2, g3, g4, g5, g6, g7, g8, g9, g10, g11, List.set_cons_zero, List.set_cons_succ, onDef, mthQ, methP, asI, asB, slQ, nn, binP, cmpQ, cmpP, subP, bfP, augP, inStr, shorts, Gl.val, tn0, tn1, tn2, tnl0, tnl1, tnl2, tnl3]
  refine ⟨_, rngItems x.length (by omega), fun l σ O' => ∃ (dn r : List Nat) (s3 s4 s5 s6 : V), x = dn ++ r ∧ l = (List.range' dn.length r.length).map (fun (k : Nat) => V.int (0 + (k : Int))) ∧ σ = [.str m, .str x, .str (cas m dn), s3, s4, s5, s6] ∧ O' = upd O L .frame ∧ (cas m dn).length ≤ 2 * dn.length,
    ⟨[], x, .undef, .undef, .undef, .undef, rfl, by rw [List.range_eq_range']; rfl, by unfold cas; simp, rfl, by unfold cas; simp⟩, ?_, ?_⟩
  · rintro v l σ O' ⟨dn, r, s3, s4, s5, s6, hx, hl, rfl, rfl, hlen⟩
    cases r with
    | nil => cases hl
    | cons c r =>
      rw [List.length_cons, List.range'_succ, List.map_cons] at hl
      obtain ⟨rfl, rfl⟩ := List.cons.inj hl
      have hget : x[dn.length]? = some c := by rw [hx, List.getElem?_append_right (Nat.le_refl _), Nat.sub_self]; rfl
      have hxl : x.length = dn.length + (r.length + 1) := by rw [hx, List.length_append, List.length_cons]
      have h2 := g1c_len m dn.length c
      have next : ∀ (out : List Nat) (s5 s6 : V), out = g1c m dn.length c → ∃ (dn' r' : List Nat) (s3 s4' s5' s6' : V), x = dn' ++ r' ∧ (List.range' (dn.length + 1) r.length).map (fun (k : Nat) => V.int (0 + (k : Int))) = (List.range' dn'.length r'.length).map (fun (k : Nat) => V.int (0 + (k : Int))) ∧ ([.str m, .str x, .str (cas m dn ++ out), .int (dn.length : Int), .str [c], s5, s6] : List V) = [.str m, .str x, .str (cas m dn'), s3, s4', s5', s6'] ∧ upd O L .frame = upd O L .frame ∧ (cas m dn').length ≤ 2 * dn'.length := fun out s5 s6 ho =>
        ⟨dn ++ [c], r, .int (dn.length : Int), .str [c], s5, s6, by rw [hx]; simp, by simp, by rw [cas_snoc, ho], rfl, by rw [cas_snoc, List.length_append, List.length_append]; simp only [List.length_cons, List.length_nil]; omega⟩
      rw [Int.zero_add]
      have spec := g1c_spec (i := dn.length) (c := c) hm
      generalize g1c m dn.length c = gg at spec next h2
      refine s_assign ?_; dsimp only [we, wes, wbo, Option.toList, g0, g1, g2, g3, g4, g5, g6, g7, g8, g9, g10, g11, List.set_cons_zero, List.set_cons_succ, onDef, mthQ, methP, asI, asB, slQ, nn, binP, cmpQ, cmpP, subP, bfP, augP, inStr, shorts, Gl.val, tn0, tn1, tn2, tnl0, tnl1, tnl2, tnl3]
      refine ⟨Int.natCast_nonneg _, c, hget, ?_⟩
      refine s_assign ((ev_rng rfl).go ?_)
      dsimp only [we, wes, wbo, Option.toList, g0, g1, g2, g3, g4, g5, g6, g7, g8, g9, g10, g11, List.set_cons_zero, List.set_cons_succ, onDef, mthQ, methP, asI, asB, slQ, nn, binP, cmpQ, cmpP, subP, bfP, augP, inStr, shorts, Gl.val, tn0, tn1, tn2, tnl0, tnl1, tnl2, tnl3]
      refine s_assign ((ev_rng rfl).go ?_)
      dsimp only [we, wes, wbo, Option.toList, g0, g1, g2, g3, g4, g5, g6, g7, g8, g9, g10, g11, List.set_cons_zero, List.set_cons_succ, onDef, mthQ, methP, asI, asB, slQ, nn, binP, cmpQ, cmpP, subP, bfP, augP, inStr, shorts, Gl.val, tn0, tn1, tn2, tnl0, tnl1, tnl2, tnl3]
      refine s_if (ev_or2 (ev_and2 (ev_eqs rfl) (ev_loc rfl rfl)) (ev_and3 (ev_eqs rfl) (ev_loc rfl rfl) (ev_eqi rfl))) (fun h => ?_) (fun h => ?_)
      · rw [if_pos h] at spec
        have hr : rangeB 97 122 c = true := by
          rw [Bool.or_eq_true, Bool.and_eq_true, Bool.and_eq_true, Bool.and_eq_true] at h
          rcases h with h | h
          · exact h.2
          · exact h.2.1
        have hc : 97 ≤ c ∧ c ≤ 122 := by simpa [rangeB] using hr
        refine s_aug ?_; dsimp only [we, wes, wbo, Option.toList, g0, g1, g2, g3, g4, g5, g6, g7, g8, g9, g10, g11, List.set_cons_zero, List.set_cons_succ, onDef, mthQ, methP, asI, asB, slQ, nn, binP, cmpQ, cmpP, subP, bfP, augP, inStr, shorts, Gl.val, tn0, tn1, tn2, tnl0, tnl1, tnl2, tnl3]
        refine ⟨by omega, by omega, szle (by simp only [List.length_cons, List.length_nil]; omega), s_join (s_nil ?_)⟩
        rw [show ((c : Int) - 32).toNat = c - 32 by omega]
        dsimp only [seqK, loopK, leave]
        exact next _ _ _ spec.symm
      · rw [if_neg (by rw [h]; decide)] at spec
        refine s_if (ev_or2 (ev_and2 (ev_or2 (ev_eqs rfl) (ev_eqs rfl)) (ev_loc rfl rfl)) (ev_and3 (ev_eqs rfl) (ev_loc rfl rfl) (ev_eqi rfl))) (fun h => ?_) (fun h => ?_)
        · rw [if_pos h] at spec
          have hr : rangeB 65 90 c = true := by
            rw [Bool.or_eq_true, Bool.and_eq_true, Bool.and_eq_true, Bool.and_eq_true] at h
            rcases h with h | h
            · exact h.2
            · exact h.2.1
          have hc : 65 ≤ c ∧ c ≤ 90 := by simpa [rangeB] using hr
          refine s_aug ?_; dsimp only [we, wes, wbo, Option.toList, g0, g1, g2, g3, g4, g5, g6, g7, g8, g9, g10, g11, List.set_cons_zero, List.set_cons_succ, onDef, mthQ, methP, asI, asB, slQ, nn, binP, cmpQ, cmpP, subP, bfP, augP, inStr, shorts, Gl.val, tn0, tn1, tn2, tnl0, tnl1, tnl2, tnl3]
          refine ⟨by omega, by omega, szle (by simp only [List.length_cons, List.length_nil]; omega), s_join (s_join (s_nil ?_))⟩
          rw [show ((c : Int) + 32).toNat = c + 32 by omega]
          dsimp only [seqK, loopK, leave]
          exact next _ _ _ spec.symm
        · rw [if_neg (by rw [h]; decide)] at spec
          refine s_if (ev_and3 (ev_eqs rfl) (ev_not (ev_or4 (ev_loc rfl rfl) (ev_loc rfl rfl) (ev_rng rfl) (ev_eqs rfl))) (ev_ord rfl)) (fun h => ?_) (fun h => ?_)
          · rw [if_pos h] at spec
            refine s_aug ?_; dsimp only [we, wes, wbo, Option.toList, g0, g1, g2, g3, g4, g5, g6, g7, g8, g9, g10, g11, List.set_cons_zero, List.set_cons_succ, onDef, mthQ, methP, asI, asB, slQ, nn, binP, cmpQ, cmpP, subP, bfP, augP, inStr, shorts, Gl.val, tn0, tn1, tn2, tnl0, tnl1, tnl2, tnl3]
            refine ⟨szle (by simp only [List.length_cons, List.length_nil]; omega), szle (by simp only [List.length_append, List.length_cons, List.length_nil]; omega), s_join (s_join (s_join (s_nil ?_)))⟩
            dsimp only [seqK, loopK, leave]
            exact next _ _ _ spec.symm
          · rw [if_neg (by rw [h]; decide)] at spec
            refine s_aug ?_; dsimp only [we, wes, wbo, Option.toList, g0, g1, g2, g3, g4, g5, g6, g7, g8, g9, g10, g11, List.set_cons_zero, List.set_cons_succ, onDef, mthQ, methP, asI, asB, slQ, nn, binP, cmpQ, cmpP, subP, bfP, augP, inStr, shorts, Gl.val, tn0, tn1, tn2, tnl0, tnl1, tnl2, tnl3]
            refine ⟨szle (by simp only [List.length_cons, List.length_nil]; omega), s_join (s_join (s_join (s_nil ?_)))⟩
            dsimp only [seqK, loopK, leave]
            exact next _ _ _ spec.symm
  · rintro σ O' ⟨dn, r, s3, s4, s5, s6, hx, hl, rfl, rfl, hlen⟩
    cases r with
    | cons c r => cases hl
    | nil =>
      rw [List.append_nil] at hx
      subst hx
      refine s_ret ?_; dsimp only [we, wes, wbo, Option.toList, g0, g1, g2, g3, g4, g5, g6, g7, g8, g9, g10, g11, List.set_cons_zero, List.set_cons_succ, onDef, mthQ, methP, asI, asB, slQ, nn, binP, cmpQ, cmpP, subP, bfP, augP, inStr, shorts, Gl.val, tn0, tn1, tn2, tnl0, tnl1, tnl2, tnl3]
      exact .pure hL k
end

end Mine
end
section
open PySem PySem.W PySem.Calls PyProof.Rows
set_option Elab.async false
set_option maxRecDepth 8000
set_option maxHeartbeats 2000000
set_option linter.all false
namespace Mine
section
variable {C : CallP} {σ : List V} {O : MH}
theorem ev_nes {i : Nat} {p q r : Pos} {m s : List Nat} (h : gv σ i = .str m) : Ev C σ O (.cmp .NotEq (.loc i p) (.str s q) r) (.bool (m != s)) :=
  ⟨fun k => by rw [we, we, h]; show we _ _ _ _ _ _; rw [we]; exact k⟩
theorem ev_eql {i j : Nat} {p q r : Pos} {m s : List Nat} (h : gv σ i = .str m) (h' : gv σ j = .str s) : Ev C σ O (.cmp .Eq (.loc i p) (.loc j q) r) (.bool (m == s)) :=
  ⟨fun k => by rw [we, we, h]; show we _ _ _ _ _ _; rw [we, h']; exact k⟩
theorem ev_pre {i j : Nat} {p1 p2 p3 p4 p5 p6 p7 p8 : Pos} {m s : List Nat} (h : gv σ i = .str m) (h' : gv σ j = .str s) : Ev C σ O (.cmp .Eq (.slTo (.loc i p1) (.bcall .len p2 (.loc j p3) p4) p5 p6) (.loc j p7) p8) (.bool (m.take s.length == s)) :=
  ⟨fun k => by
    rw [we, we, we, h]; show we _ _ _ _ _ _; rw [we, we, h']; refine ⟨Int.natCast_nonneg _, ?_⟩
    show we _ _ _ _ _ _; rw [we, h']; exact k⟩
theorem s_if_p {K : Fl → List V → MH → Prop} {E : Int → MH → Prop} {r : Sts} {t : X} {b o : Sts} {p : Pos} {c : Bool} (P : List V → Prop) (h : Ev C σ O t (.bool c)) (k : ∀ σ', P σ' → Hold (wsb C r σ' O K E))
    (k1 : c = true → ∀ K' : Fl → List V → MH → Prop, (∀ σ', P σ' → K' .next σ' O) → Hold (wsb C b σ O K' E)) (k2 : c = false → ∀ K' : Fl → List V → MH → Prop, (∀ σ', P σ' → K' .next σ' O) → Hold (wsb C o σ O K' E)) : Hold (wsb C (.cons (.ifs t b o p) r) σ O K E) :=
  s_if h (fun q => k1 q _ k) (fun q => k2 q _ k)
end
theorem rngItems2 {a b : Nat} (h : a < 1000000) (h' : b < 1000000) : itemsOf (.rng (a : Int) (b : Int)) = some ((List.range ((b : Int) - a).toNat).map fun (k : Nat) => .int ((a : Int) + (k : Int))) :=
  if_pos ⟨by omega, by omega, by omega, by omega⟩
noncomputable def pr (ind : Bool) (w row : List Nat) : Bool := (if ind = true then lstripL row [32, 9] else row) == w
noncomputable def st1 (mg row : List Nat) : Option (List Nat) := if (row.take mg.length == mg) = true then some (row.drop mg.length) else if (row != []) = true then none else some row
noncomputable def hb (mg : List Nat) : List (List Nat) → Nat → List Nat → List Nat ⊕ Nat
  | [], _, t => .inl t
  | row :: r, i, t => match st1 mg row with
    | some x => hb mg r (i + 1) (t ++ (x ++ [10]))
    | none => .inr (i + 1)
theorem get_map {ls : List (List Nat)} {i : Nat} {x : List Nat} (h : ls[i]? = some x) : at? (ls.map V.str) (i : Int) = some (.str x) := by
  rw [at_nat, List.getElem?_map, h]; rfl
theorem get_drop {ls dn r : List (List Nat)} {a : Nat} {x : List Nat} (h : ls.drop a = dn ++ x :: r) : ls[a + dn.length]? = some x := by
  rw [← List.getElem?_drop, h, List.getElem?_append_right (Nat.le_refl _), Nat.sub_self]; rfl
theorem find_skip {p : List Nat → Bool} : ∀ {dn r : List (List Nat)}, (∀ x ∈ dn, p x = false) → (dn ++ r).findIdx? p = (r.findIdx? p).map (· + dn.length)
  | [], r, _ => by simp
  | x :: dn, r, h => by
    rw [List.cons_append, List.findIdx?_cons, if_neg (by rw [h x (.head _)]; decide), find_skip fun y hy => h y (.tail _ hy), Option.map_map]
    congr 1
section
variable {n : Nat} {O : MH} {K : V → MH → Prop} {E : Int → MH → Prop}
theorem here_end_c {ls : List (List Nat)} {w : List Nat} {ind : Bool} {a : Nat} (hl : ls.length ≤ 1000) (ha : a ≤ ls.length)
    (h : match (ls.drop a).findIdx? (pr ind w) with | some j => K (.int ((a + j : Nat) : Int)) O | none => E a O) : Hold (CC (n + 1) .here_end [.fl (ls.map .str), .int a, .str w, .bool ind] O K E) := by
  refine ⟨⟨rfl, fun L hL => Hold.out ?_⟩⟩; dsimp only [start, names, ar, List.length_cons, List.length_nil, Nat.zero_add, Nat.reduceAdd, Nat.reduceSub, Nat.sub_self, List.replicate, List.append_nil, List.cons_append, List.nil_append]
  refine s_for ?_
  dsimp only [we, wes, wbo, Option.toList, g0, g1, g2, g3, g4, g5, g6, g7, g8, g9, g10, g11, List.set_cons_zero, List.set_cons_succ, onDef, mthQ, methP, asI, asB, slQ, nn, binP, cmpQ, cmpP, subP, bfP, augP, inStr, shorts, Gl.val, tn0, tn1, tn2, tnl0, tnl1, tnl2, tnl3]
  rw [List.length_map]
  refine ⟨_, rngItems2 (by omega) (by omega), fun l σ O' => ∃ (dn r : List (List Nat)) (s4 s5 : V), ls.drop a = dn ++ r ∧ (∀ x ∈ dn, pr ind w x = false) ∧ l = (List.range' dn.length r.length).map (fun (k : Nat) => V.int ((a : Int) + (k : Int))) ∧ σ = [.fl (ls.map .str), .int a, .str w, .bool ind, s4, s5] ∧ O' = upd O L .frame,
    ⟨[], ls.drop a, .undef, .undef, rfl, by simp, by rw [List.range_eq_range', List.length_drop, show ((ls.length : Int) - a).toNat = ls.length - a by omega]; rfl, rfl, rfl⟩, ?_, ?_⟩
  · rintro v l σ O' ⟨dn, r, s4, s5, hx, hp, hl2, rfl, rfl⟩
    cases r with
    | nil => cases hl2
    | cons row r =>
      rw [List.length_cons, List.range'_succ, List.map_cons] at hl2
      obtain ⟨rfl, rfl⟩ := List.cons.inj hl2
      rw [← Int.natCast_add]
      refine s_assign ?_; dsimp only [we, wes, wbo, Option.toList, g0, g1, g2, g3, g4, g5, g6, g7, g8, g9, g10, g11, List.set_cons_zero, List.set_cons_succ, onDef, mthQ, methP, asI, asB, slQ, nn, binP, cmpQ, cmpP, subP, bfP, augP, inStr, shorts, Gl.val, tn0, tn1, tn2, tnl0, tnl1, tnl2, tnl3]
      refine ⟨_, get_map (get_drop hx), ?_⟩
      refine s_if_p (fun σ' => σ' = [.fl (ls.map .str), .int a, .str w, .bool ind, .int ((a + dn.length : Nat) : Int), .str (if ind = true then lstripL row [32, 9] else row)]) (ev_loc rfl rfl) ?_ ?_ ?_
      · rintro _ rfl
        refine s_if (ev_eql rfl rfl) (fun hq => ?_) (fun hq => ?_)
        · rw [hx, find_skip hp, List.findIdx?_cons, if_pos (show pr ind w row = true from hq)] at h
          simp only [Option.map_some, Nat.zero_add] at h
          refine s_ret ?_; dsimp only [we, wes, wbo, Option.toList, g0, g1, g2, g3, g4, g5, g6, g7, g8, g9, g10, g11, List.set_cons_zero, List.set_cons_succ, onDef, mthQ, methP, asI, asB, slQ, nn, binP, cmpQ, cmpP, subP, bfP, augP, inStr, shorts, Gl.val, tn0, tn1, tn2, tnl0, tnl1, tnl2, tnl3]
          dsimp only [seqK, loopK, leave]
          exact .pure hL h
        · refine s_join (s_nil ?_)
          dsimp only [seqK, loopK, leave]
          refine ⟨dn ++ [row], r, _, _, by rw [hx]; simp, fun x q => ?_, by simp, rfl, rfl⟩
          rcases List.mem_append.mp q with q | q
          · exact hp x q
          · rw [List.mem_singleton.mp q]; exact hq
      · intro hi K' hK
        refine s_assign ?_; dsimp only [we, wes, wbo, Option.toList, g0, g1, g2, g3, g4, g5, g6, g7, g8, g9, g10, g11, List.set_cons_zero, List.set_cons_succ, onDef, mthQ, methP, asI, asB, slQ, nn, binP, cmpQ, cmpP, subP, bfP, augP, inStr, shorts, Gl.val, tn0, tn1, tn2, tnl0, tnl1, tnl2, tnl3]
        refine s_nil (hK _ ?_)
        rw [if_pos hi]
      · intro hi K' hK
        refine s_nil (hK _ ?_)
        rw [if_neg (by rw [hi]; decide)]
  · rintro σ O' ⟨dn, r, s4, s5, hx, hp, hl2, rfl, rfl⟩
    cases r with
    | cons c r => cases hl2
    | nil =>
      rw [hx, find_skip hp] at h
      refine s_raise ?_; dsimp only [we, wes, wbo, Option.toList, g0, g1, g2, g3, g4, g5, g6, g7, g8, g9, g10, g11, List.set_cons_zero, List.set_cons_succ, onDef, mthQ, methP, asI, asB, slQ, nn, binP, cmpQ, cmpP, subP, bfP, augP, inStr, shorts, Gl.val, tn0, tn1, tn2, tnl0, tnl1, tnl2, tnl3]
      exact .pure hL h
theorem here_body_none {ls : List (List Nat)} {w : List Nat} {ind : Bool} {a : Nat} (hl : ls.length ≤ 1000) (ha : a ≤ ls.length)
    (hj : (ls.drop a).findIdx? (pr ind w) = none) (h : E a O) : Hold (CC (n + 2) .here_body [.fl (ls.map .str), .int a, .str w, .bool ind] O K E) := by
  refine ⟨⟨rfl, fun L hL => Hold.out ?_⟩⟩; dsimp only [start, names, ar, List.length_cons, List.length_nil, Nat.zero_add, Nat.reduceAdd, Nat.reduceSub, Nat.sub_self, List.replicate, List.append_nil, List.cons_append, List.nil_append]
  refine s_assign ?_; dsimp only [we, wes, wbo, Option.toList, g0, g1, g2, g3, g4, g5, g6, g7, g8, g9, g10, g11, List.set_cons_zero, List.set_cons_succ, onDef, mthQ, methP, asI, asB, slQ, nn, binP, cmpQ, cmpP, subP, bfP, augP, inStr, shorts, Gl.val, tn0, tn1, tn2, tnl0, tnl1, tnl2, tnl3]
  refine here_end_c hl ha ?_
  rw [hj]
  exact .pure hL h
theorem here_body_c {ls : List (List Nat)} {w line : List Nat} {ind : Bool} {a j : Nat} (hl : ls.length ≤ 100) (hr : ∀ x ∈ ls, x.length ≤ 100) (ha : a ≤ ls.length)
    (hj : (ls.drop a).findIdx? (pr ind w) = some j) (hline : ls[a + j]? = some line) (hw : w.length ≤ line.length)
    (h : match hb (line.take (line.length - w.length)) ((ls.drop a).take j) a [] with | .inl t => K (.tup [.str t, .int (((a + j : Nat) : Int) + 1)]) O | .inr e => E e O) : Hold (CC (n + 2) .here_body [.fl (ls.map .str), .int a, .str w, .bool ind] O K E) := by
  have hjl : a + j < ls.length := (List.getElem?_eq_some_iff.mp hline).1
  refine ⟨⟨rfl, fun L hL => Hold.out ?_⟩⟩; dsimp only [start, names, ar, List.length_cons, List.length_nil, Nat.zero_add, Nat.reduceAdd, Nat.reduceSub, Nat.sub_self, List.replicate, List.append_nil, List.cons_append, List.nil_append]
  refine s_assign ?_; dsimp only [we, wes, wbo, Option.toList, g0, g1, g2, g3, g4, g5, g6, g7, g8, g9, g10, g11, List.set_cons_zero, List.set_cons_succ, onDef, mthQ, methP, asI, asB, slQ, nn, binP, cmpQ, cmpP, subP, bfP, augP, inStr, shorts, Gl.val, tn0, tn1, tn2, tnl0, tnl1, tnl2, tnl3]
  refine here_end_c (by omega) ha ?_
  rw [hj]
  refine s_assign ?_; dsimp only [we, wes, wbo, Option.toList, g0, g1, g2, g3, g4, g5, g6, g7, g8, g9, g10, g11, List.set_cons_zero, List.set_cons_succ, onDef, mthQ, methP, asI, asB, slQ, nn, binP, cmpQ, cmpP, subP, bfP, augP, inStr, shorts, Gl.val, tn0, tn1, tn2, tnl0, tnl1, tnl2, tnl3]
  refine ⟨_, get_map hline, ?_⟩
  dsimp only [we, wes, wbo, Option.toList, g0, g1, g2, g3, g4, g5, g6, g7, g8, g9, g10, g11, List.set_cons_zero, List.set_cons_succ, onDef, mthQ, methP, asI, asB, slQ, nn, binP, cmpQ, cmpP, subP, bfP, augP, inStr, shorts, Gl.val, tn0, tn1, tn2, tnl0, tnl1, tnl2, tnl3]
  refine ⟨_, get_map hline, ?_⟩
  dsimp only [we, wes, wbo, Option.toList, g0, g1, g2, g3, g4, g5, g6, g7, g8, g9, g10, g11, List.set_cons_zero, List.set_cons_succ, onDef, mthQ, methP, asI, asB, slQ, nn, binP, cmpQ, cmpP, subP, bfP, augP, inStr, shorts, Gl.val, tn0, tn1, tn2, tnl0, tnl1, tnl2, tnl3]
  rw [show (line.length : Int) - (w.length : Int) = ((line.length - w.length : Nat) : Int) by omega]
  refine ⟨Int.natCast_nonneg _, ?_⟩
  rw [show cutL line none (some ((line.length - w.length : Nat) : Int)) = line.take (line.length - w.length) from rfl]
  generalize line.take (line.length - w.length) = mg at h
  refine s_assign ?_; dsimp only [we, wes, wbo, Option.toList, g0, g1, g2, g3, g4, g5, g6, g7, g8, g9, g10, g11, List.set_cons_zero, List.set_cons_succ, onDef, mthQ, methP, asI, asB, slQ, nn, binP, cmpQ, cmpP, subP, bfP, augP, inStr, shorts, Gl.val, tn0, tn1, tn2, tnl0, tnl1, tnl2, tnl3]
  refine s_for ?_
  dsimp only [we, wes, wbo, Option.toList, g0, g1, g2, g3, g4, g5, g6, g7, g8, g9, g10, g11, List.set_cons_zero, List.set_cons_succ, onDef, mthQ, methP, asI, asB, slQ, nn, binP, cmpQ, cmpP, subP, bfP, augP, inStr, shorts, Gl.val, tn0, tn1, tn2, tnl0, tnl1, tnl2, tnl3]
  refine ⟨_, rngItems2 (by omega) (by omega), fun l σ O' => ∃ (dn r : List (List Nat)) (tx : List Nat) (s7 s8 : V), (ls.drop a).take j = dn ++ r ∧ hb mg ((ls.drop a).take j) a [] = hb mg r (a + dn.length) tx ∧ tx.length ≤ dn.length * 101 ∧ l = (List.range' dn.length r.length).map (fun (k : Nat) => V.int ((a : Int) + (k : Int))) ∧ σ = [.fl (ls.map .str), .int a, .str w, .bool ind, .int ((a + j : Nat) : Int), .str mg, .str tx, s7, s8] ∧ O' = upd O L .frame,
    ⟨[], (ls.drop a).take j, [], .undef, .undef, rfl, rfl, by simp, by rw [List.range_eq_range', List.length_take, List.length_drop, show (((a + j : Nat) : Int) - a).toNat = min j (ls.length - a) by omega]; rfl, rfl, rfl⟩, ?_, ?_⟩
  · rintro v l σ O' ⟨dn, r, tx, s7, s8, hx, hh, htx, hl2, rfl, rfl⟩
    cases r with
    | nil => cases hl2
    | cons row r =>
      rw [List.length_cons, List.range'_succ, List.map_cons] at hl2
      obtain ⟨rfl, rfl⟩ := List.cons.inj hl2
      have hx2 : ls.drop a = dn ++ row :: (r ++ (ls.drop a).drop j) := by
        have := List.take_append_drop j (ls.drop a)
        rw [hx] at this
        exact this.symm.trans (by rw [List.append_assoc, List.cons_append])
      have hrow := get_drop hx2
      have hrl : row.length ≤ 100 := hr row (List.mem_of_getElem? hrow)
      have hdl : dn.length < 100 := by
        have := (List.getElem?_eq_some_iff.mp hrow).1
        omega
      rw [← Int.natCast_add]
      refine s_assign ?_; dsimp only [we, wes, wbo, Option.toList, g0, g1, g2, g3, g4, g5, g6, g7, g8, g9, g10, g11, List.set_cons_zero, List.set_cons_succ, onDef, mthQ, methP, asI, asB, slQ, nn, binP, cmpQ, cmpP, subP, bfP, augP, inStr, shorts, Gl.val, tn0, tn1, tn2, tnl0, tnl1, tnl2, tnl3]
      refine ⟨_, get_map hrow, ?_⟩
      have go : ∀ row', row'.length ≤ 100 → st1 mg row = some row' → hb mg ((ls.drop a).take j) a [] = hb mg r (a + (dn ++ [row]).length) (tx ++ (row' ++ [10])) := fun row' _ e => by
        rw [hh, hb, e, List.length_append]; rfl
      refine s_if_p (fun σ' => ∃ row', row'.length ≤ 100 ∧ st1 mg row = some row' ∧ σ' = [.fl (ls.map .str), .int a, .str w, .bool ind, .int ((a + j : Nat) : Int), .str mg, .str tx, .int ((a + dn.length : Nat) : Int), .str row']) (ev_pre rfl rfl) ?_ ?_ ?_
      · rintro _ ⟨row', h1, h2, rfl⟩
        refine s_aug ?_; dsimp only [we, wes, wbo, Option.toList, g0, g1, g2, g3, g4, g5, g6, g7, g8, g9, g10, g11, List.set_cons_zero, List.set_cons_succ, onDef, mthQ, methP, asI, asB, slQ, nn, binP, cmpQ, cmpP, subP, bfP, augP, inStr, shorts, Gl.val, tn0, tn1, tn2, tnl0, tnl1, tnl2, tnl3]
        refine ⟨szle (by (try simp only [List.length_append, List.length_cons, List.length_nil]); omega), szle (by (try simp only [List.length_append, List.length_cons, List.length_nil]); omega), s_nil ?_⟩
        dsimp only [seqK, loopK, leave]
        exact ⟨dn ++ [row], r, _, _, _, by rw [hx]; simp, go row' h1 h2, by simp only [List.length_append, List.length_cons, List.length_nil]; omega, by simp, rfl, rfl⟩
      · intro hq K' hK
        refine s_assign ?_; dsimp only [we, wes, wbo, Option.toList, g0, g1, g2, g3, g4, g5, g6, g7, g8, g9, g10, g11, List.set_cons_zero, List.set_cons_succ, onDef, mthQ, methP, asI, asB, slQ, nn, binP, cmpQ, cmpP, subP, bfP, augP, inStr, shorts, Gl.val, tn0, tn1, tn2, tnl0, tnl1, tnl2, tnl3]
        refine ⟨Int.natCast_nonneg _, s_nil (hK _ ⟨row.drop mg.length, by rw [List.length_drop]; omega, by rw [st1, if_pos hq], rfl⟩)⟩
      · intro hq K' hK
        refine s_if (ev_nes rfl) (fun hq2 => ?_) (fun hq2 => ?_)
        · refine s_raise ?_; dsimp only [we, wes, wbo, Option.toList, g0, g1, g2, g3, g4, g5, g6, g7, g8, g9, g10, g11, List.set_cons_zero, List.set_cons_succ, onDef, mthQ, methP, asI, asB, slQ, nn, binP, cmpQ, cmpP, subP, bfP, augP, inStr, shorts, Gl.val, tn0, tn1, tn2, tnl0, tnl1, tnl2, tnl3]
          rw [hh, hb, st1, if_neg (by rw [hq]; decide), if_pos hq2] at h
          exact .pure hL h
        · exact s_join (s_nil (hK _ ⟨row, hrl, by rw [st1, if_neg (by rw [hq]; decide), if_neg (by rw [hq2]; decide)], rfl⟩))
  · rintro σ O' ⟨dn, r, tx, s7, s8, hx, hh, htx, hl2, rfl, rfl⟩
    cases r with
    | cons c r => cases hl2
    | nil =>
      rw [hh] at h
      refine s_ret ?_; dsimp only [we, wes, wbo, Option.toList, g0, g1, g2, g3, g4, g5, g6, g7, g8, g9, g10, g11, List.set_cons_zero, List.set_cons_succ, onDef, mthQ, methP, asI, asB, slQ, nn, binP, cmpQ, cmpP, subP, bfP, augP, inStr, shorts, Gl.val, tn0, tn1, tn2, tnl0, tnl1, tnl2, tnl3]
      exact .pure hL h
end

end Mine
end
section
open PySem PySem.W PySem.Calls PyProof.Rows
set_option Elab.async false
set_option maxRecDepth 8000
set_option maxHeartbeats 2000000
set_option linter.all false
namespace Mine
noncomputable abbrev ENDW : List Nat := [69, 78, 68]
noncomputable abbrev rawL : List (List Nat) := [[97], [], [32, 32, 69, 78, 68], [69, 78, 68, 32], [32, 98], [9, 99], [69, 78, 68, 88], [32, 32, 32, 32, 100]]
noncomputable abbrev rowL : List (List Nat) := [[97], [], [32, 32, 69, 78, 68, 46], [69, 78, 68, 32, 46], [32, 98], [9, 99], [69, 78, 68, 88], [32, 32, 32, 32, 100]]
noncomputable abbrev mgL : List (List Nat) := [[], [32], [9, 32], [32, 32]]
theorem row_fact : ∀ mg ∈ mgL, ∀ x ∈ rowL, pr (mg != []) ENDW x = false ∧ pr true ENDW x = false ∧ pr (mg != []) ENDW (mg ++ x) = false ∧ pr true ENDW (mg ++ x) = false := by decide +kernel
theorem end_fact : ∀ mg ∈ mgL, pr (mg != []) ENDW (mg ++ ENDW) = true := by decide +kernel
theorem raw_fact : ∀ x ∈ rawL, ((stripL x [32, 9] == ENDW) = true → x ++ [46] ∈ rowL) ∧ ((stripL x [32, 9] == ENDW) = false → x ∈ rowL) := by decide +kernel
section
variable {C : CallP} {σ : List V} {O : MH}
theorem ev_strip {i : Nat} {p q r p' p'' q' : Pos} {m s u : List Nat} (h : gv σ i = .str m) : Ev C σ O (.cmp .Eq (.meth (.loc i p) .strip q (.cons (.str s p') .nil) p'') (.str u q') r) (.bool (stripL m s == u)) :=
  ⟨fun k => by rw [we, we, we, h]; show wes _ _ _ _ _ _; rw [wes, we, wes]; show we _ _ _ _ _ _; rw [we]; exact k⟩
theorem ev_lti {i : Nat} {p q r : Pos} {m s : Int} (h : gv σ i = .int m) : Ev C σ O (.cmp .Lt (.loc i p) (.int s q) r) (.bool (decide (m < s))) :=
  ⟨fun k => by rw [we, we, h]; show we _ _ _ _ _ _; rw [we]; exact k⟩
end
noncomputable def hGood (mg : List Nat) (rs : List (List Nat)) (want : List Nat) (wr : Int) : Prop := (wr = -1 ∧ hb mg rs 1 [] = .inl want) ∨ ∃ e : Nat, wr = e ∧ hb mg rs 1 [] = .inr (e + 1)
theorem hb_snoc (mg row : List Nat) : ∀ (rs : List (List Nat)) (i : Nat) (t : List Nat), hb mg (rs ++ [row]) i t = match hb mg rs i t with
    | .inl t' => (match st1 mg row with | some x => .inl (t' ++ (x ++ [10])) | none => .inr (i + rs.length + 1))
    | .inr e => .inr e
  | [], i, t => rfl
  | y :: rs, i, t => by
    rw [List.cons_append, hb, hb]
    cases st1 mg y with
    | none => rfl
    | some x =>
      dsimp only
      rw [hb_snoc mg row rs (i + 1) _, List.length_cons, Nat.add_assoc i 1, Nat.add_comm 1]
theorem hGood.some {mg row x want : List Nat} {rs : List (List Nat)} {wr : Int} (h : hGood mg rs want wr) (e : st1 mg row = some x) : hGood mg (rs ++ [row]) (want ++ (x ++ [10])) wr := by
  rcases h with ⟨h1, h2⟩ | ⟨n, h1, h2⟩
  · exact .inl ⟨h1, by rw [hb_snoc, h2, e]⟩
  · exact .inr ⟨n, h1, by rw [hb_snoc, h2]⟩
theorem hGood.bad {mg row x want : List Nat} {rs : List (List Nat)} {wr : Int} (h : hGood mg rs want wr) (hw : ¬wr < 0) : hGood mg (rs ++ [row]) (want ++ (x ++ [10])) wr := by
  rcases h with ⟨h1, h2⟩ | ⟨n, h1, h2⟩
  · omega
  · exact .inr ⟨n, h1, by rw [hb_snoc, h2]⟩
theorem hGood.turn {mg row x want : List Nat} {rs : List (List Nat)} {wr : Int} (h : hGood mg rs want wr) (hw : wr < 0) (e : st1 mg row = none) : hGood mg (rs ++ [row]) (want ++ (x ++ [10])) ((rs.length + 1 : Nat) : Int) := by
  rcases h with ⟨h1, h2⟩ | ⟨n, h1, h2⟩
  · refine .inr ⟨_, rfl, ?_⟩
    rw [hb_snoc, h2, e, Nat.add_comm 1]
  · omega
theorem st1_mg (mg row : List Nat) : st1 mg (mg ++ row) = some row := by
  unfold st1
  rw [if_pos (by simp), List.drop_left]
section
variable {n : Nat} {O : MH} {K : V → MH → Prop} {E : Int → MH → Prop}
theorem rows_c (k : K (.fl (rawL.map .str)) O) : Hold (CC (n + 1) .rows [] O K E) := by
  refine ⟨⟨rfl, fun L hL => Hold.out ?_⟩⟩; dsimp only [start, names, ar, List.length_cons, List.length_nil, Nat.zero_add, Nat.reduceAdd, Nat.reduceSub, Nat.sub_self, List.replicate, List.append_nil, List.cons_append, List.nil_append]
  refine s_ret ?_; dsimp only [we, wes, wbo, Option.toList, g0, g1, g2, g3, g4, g5, g6, g7, g8, g9, g10, g11, List.set_cons_zero, List.set_cons_succ, onDef, mthQ, methP, asI, asB, slQ, nn, binP, cmpQ, cmpP, subP, bfP, augP, inStr, shorts, Gl.val, tn0, tn1, tn2, tnl0, tnl1, tnl2, tnl3]
  exact .pure hL k
theorem here_c {t : Addr} {tp : List Int} {a : Nat} (ha : a ≤ 8000) (k : ∀ a', K (.bool true) (upd O t (tapeC tp a'))) : Hold (CC (n + 3) .here [.lst t] (upd O t (tapeC tp a)) K E) := by
  refine ⟨⟨rfl, fun L hL => Hold.out ?_⟩⟩; dsimp only [start, names, ar, List.length_cons, List.length_nil, Nat.zero_add, Nat.reduceAdd, Nat.reduceSub, Nat.sub_self, List.replicate, List.append_nil, List.cons_append, List.nil_append]
  have hne : t ≠ L := by rintro rfl; rw [upd_self] at hL; cases hL
  have hL2 : O L = none := by rw [← hL, upd_ne _ (Ne.symm hne)]
  rw [upd_comm hne]
  refine s_assign ?_; dsimp only [we, wes, wbo, Option.toList, g0, g1, g2, g3, g4, g5, g6, g7, g8, g9, g10, g11, List.set_cons_zero, List.set_cons_succ, onDef, mthQ, methP, asI, asB, slQ, nn, binP, cmpQ, cmpP, subP, bfP, augP, inStr, shorts, Gl.val, tn0, tn1, tn2, tnl0, tnl1, tnl2, tnl3]
  refine take_u (m := 4) (by omega) (by decide) fun z hz => ?_
  obtain ⟨mg, hmg, e⟩ := pick (l := mgL) (z := z) hz
  have mgl : mg.length ≤ 2 := (by decide : ∀ w ∈ mgL, w.length ≤ 2) mg hmg
  refine ⟨_, e, ?_⟩
  refine s_assign ?_; dsimp only [we, wes, wbo, Option.toList, g0, g1, g2, g3, g4, g5, g6, g7, g8, g9, g10, g11, List.set_cons_zero, List.set_cons_succ, onDef, mthQ, methP, asI, asB, slQ, nn, binP, cmpQ, cmpP, subP, bfP, augP, inStr, shorts, Gl.val, tn0, tn1, tn2, tnl0, tnl1, tnl2, tnl3]
  intro w hw
  obtain ⟨hwt, hw'⟩ := ne2 hw
  obtain ⟨hwL, hwO⟩ := ne2 hw'
  rw [upd_comm (Ne.symm hwt)]
  refine s_assign ?_; dsimp only [we, wes, wbo, Option.toList, g0, g1, g2, g3, g4, g5, g6, g7, g8, g9, g10, g11, List.set_cons_zero, List.set_cons_succ, onDef, mthQ, methP, asI, asB, slQ, nn, binP, cmpQ, cmpP, subP, bfP, augP, inStr, shorts, Gl.val, tn0, tn1, tn2, tnl0, tnl1, tnl2, tnl3]
  refine s_assign ?_; dsimp only [we, wes, wbo, Option.toList, g0, g1, g2, g3, g4, g5, g6, g7, g8, g9, g10, g11, List.set_cons_zero, List.set_cons_succ, onDef, mthQ, methP, asI, asB, slQ, nn, binP, cmpQ, cmpP, subP, bfP, augP, inStr, shorts, Gl.val, tn0, tn1, tn2, tnl0, tnl1, tnl2, tnl3]
  refine s_for ?_
  dsimp only [we, wes, wbo, Option.toList, g0, g1, g2, g3, g4, g5, g6, g7, g8, g9, g10, g11, List.set_cons_zero, List.set_cons_succ, onDef, mthQ, methP, asI, asB, slQ, nn, binP, cmpQ, cmpP, subP, bfP, augP, inStr, shorts, Gl.val, tn0, tn1, tn2, tnl0, tnl1, tnl2, tnl3]
  refine take_u (m := 6) (by omega) (by decide) fun r hr => ?_
  dsimp only [we, wes, wbo, Option.toList, g0, g1, g2, g3, g4, g5, g6, g7, g8, g9, g10, g11, List.set_cons_zero, List.set_cons_succ, onDef, mthQ, methP, asI, asB, slQ, nn, binP, cmpQ, cmpP, subP, bfP, augP, inStr, shorts, Gl.val, tn0, tn1, tn2, tnl0, tnl1, tnl2, tnl3]
  refine ⟨_, rngItems r (by omega), fun l σ O' => ∃ (rs : List (List Nat)) (want : List Nat) (wr : Int) (a' m : Nat) (s5 s6 : V), σ = [.lst t, .str mg, .lst w, .str want, .int wr, s5, s6, .undef, .undef, .undef] ∧ O' = upd (upd (upd O L .frame) w (.list (rs.map .str))) t (tapeC tp a') ∧ hGood mg rs want wr ∧
    (∀ x ∈ rs, pr (mg != []) ENDW x = false ∧ pr true ENDW x = false ∧ x.length ≤ 20) ∧ m + l.length ≤ 5 ∧ rs.length = m ∧ want.length ≤ m * 21 ∧ a' ≤ a + 2 + m * 2, ⟨[], [], -1, a + 1 + 1, 0, .undef, .undef, rfl, rfl, .inl ⟨rfl, rfl⟩, by simp, by simp; omega, rfl, by simp, by omega⟩, ?_, ?_⟩
  · rintro x l σ O' ⟨rs, want, wr, a', m, s5, s6, rfl, rfl, hg, hrs, hm, h1, h2, h3⟩
    rw [List.length_cons] at hm
    refine s_assign ?_; dsimp only [we, wes, wbo, Option.toList, g0, g1, g2, g3, g4, g5, g6, g7, g8, g9, g10, g11, List.set_cons_zero, List.set_cons_succ, onDef, mthQ, methP, asI, asB, slQ, nn, binP, cmpQ, cmpP, subP, bfP, augP, inStr, shorts, Gl.val, tn0, tn1, tn2, tnl0, tnl1, tnl2, tnl3]
    refine rows_c ?_
    refine take_u (m := 8) (by omega) (by decide) fun z hz => ?_
    obtain ⟨row₀, hrow₀, e⟩ := pick (l := rawL) (z := z) hz
    refine ⟨_, e, ?_⟩
    have hr0 := raw_fact row₀ hrow₀
    have hl0 : row₀.length ≤ 6 := (by decide : ∀ w ∈ rawL, w.length ≤ 6) row₀ hrow₀
    refine s_if_p (fun σ' => ∃ row, row ∈ rowL ∧ σ' = [.lst t, .str mg, .lst w, .str want, .int wr, x, .str row, .undef, .undef, .undef]) (ev_strip rfl) ?_ ?_ ?_
    · rintro _ ⟨row, hrow, rfl⟩
      have hl1 : row.length ≤ 6 := (by decide : ∀ w ∈ rowL, w.length ≤ 6) row hrow
      obtain ⟨p1, p2, p3, p4⟩ := row_fact mg hmg row hrow
      refine s_ifs ?_; dsimp only [we, wes, wbo, Option.toList, g0, g1, g2, g3, g4, g5, g6, g7, g8, g9, g10, g11, List.set_cons_zero, List.set_cons_succ, onDef, mthQ, methP, asI, asB, slQ, nn, binP, cmpQ, cmpP, subP, bfP, augP, inStr, shorts, Gl.val, tn0, tn1, tn2, tnl0, tnl1, tnl2, tnl3]
      refine take_u (m := 4) (by omega) (by decide) fun z hz => ?_
      dsimp only [we, wes, wbo, Option.toList, g0, g1, g2, g3, g4, g5, g6, g7, g8, g9, g10, g11, List.set_cons_zero, List.set_cons_succ, onDef, mthQ, methP, asI, asB, slQ, nn, binP, cmpQ, cmpP, subP, bfP, augP, inStr, shorts, Gl.val, tn0, tn1, tn2, tnl0, tnl1, tnl2, tnl3]
      have again : ∀ (y want' : List Nat) (wr' : Int) (s6 : V) (a'' : Nat), hGood mg (rs ++ [y]) want' wr' → pr (mg != []) ENDW y = false → pr true ENDW y = false → y.length ≤ 20 → want'.length ≤ want.length + 21 → a'' ≤ a' + 2 →
          ∃ (rs' : List (List Nat)) (want₁ : List Nat) (wr₁ : Int) (a₁ m : Nat) (s5' s6' : V), ([.lst t, .str mg, .lst w, .str want', .int wr', x, s6, .undef, .undef, .undef] : List V) = [.lst t, .str mg, .lst w, .str want₁, .int wr₁, s5', s6', .undef, .undef, .undef] ∧ upd (upd (upd O L .frame) w (.list (rs.map .str ++ [.str y]))) t (tapeC tp a'') = upd (upd (upd O L .frame) w (.list (rs'.map .str))) t (tapeC tp a₁) ∧ hGood mg rs' want₁ wr₁ ∧
            (∀ x ∈ rs', pr (mg != []) ENDW x = false ∧ pr true ENDW x = false ∧ x.length ≤ 20) ∧ m + l.length ≤ 5 ∧ rs'.length = m ∧ want₁.length ≤ m * 21 ∧ a₁ ≤ a + 2 + m * 2 := fun y want' wr' s6 a'' q1 q2 q3 q4 q5 q6 =>
        ⟨rs ++ [y], want', wr', a'', m + 1, x, s6, rfl, by rw [List.map_append]; rfl, q1, fun z hz => by
          rcases List.mem_append.mp hz with hz | hz
          · exact hrs z hz
          · rw [List.mem_singleton.mp hz]; exact ⟨q2, q3, q4⟩, by omega, by rw [List.length_append, h1]; rfl, by omega, by omega⟩
      refine i_s (fun h => ?_) (fun h => ?_)
      · refine s_expr ?_; dsimp only [we, wes, wbo, Option.toList, g0, g1, g2, g3, g4, g5, g6, g7, g8, g9, g10, g11, List.set_cons_zero, List.set_cons_succ, onDef, mthQ, methP, asI, asB, slQ, nn, binP, cmpQ, cmpP, subP, bfP, augP, inStr, shorts, Gl.val, tn0, tn1, tn2, tnl0, tnl1, tnl2, tnl3]
        refine ⟨⟨_, by rw [upd_ne _ hwt]; exact upd_self ..⟩, szle (by (try simp only [List.length_append, List.length_cons, List.length_nil]); omega), _, by rw [upd_ne _ hwt]; exact upd_self .., Nat.lt_of_le_of_lt (m := 100000) (by rw [List.length_map]; omega) (by decide), ?_⟩
        rw [upd_mid hwt]
        refine s_aug ?_; dsimp only [we, wes, wbo, Option.toList, g0, g1, g2, g3, g4, g5, g6, g7, g8, g9, g10, g11, List.set_cons_zero, List.set_cons_succ, onDef, mthQ, methP, asI, asB, slQ, nn, binP, cmpQ, cmpP, subP, bfP, augP, inStr, shorts, Gl.val, tn0, tn1, tn2, tnl0, tnl1, tnl2, tnl3]
        refine ⟨szle (by (try simp only [List.length_append, List.length_cons, List.length_nil]); omega), szle (by (try simp only [List.length_append, List.length_cons, List.length_nil]); omega), s_join (s_nil ?_)⟩
        dsimp only [seqK, loopK, leave]
        exact again _ _ _ _ _ (hg.some (st1_mg mg row)) p3 p4 (by rw [List.length_append]; omega) (by simp only [List.length_append, List.length_cons, List.length_nil]; omega) (by omega)
      · refine s_expr ?_; dsimp only [we, wes, wbo, Option.toList, g0, g1, g2, g3, g4, g5, g6, g7, g8, g9, g10, g11, List.set_cons_zero, List.set_cons_succ, onDef, mthQ, methP, asI, asB, slQ, nn, binP, cmpQ, cmpP, subP, bfP, augP, inStr, shorts, Gl.val, tn0, tn1, tn2, tnl0, tnl1, tnl2, tnl3]
        refine ⟨⟨_, by rw [upd_ne _ hwt]; exact upd_self ..⟩, _, by rw [upd_ne _ hwt]; exact upd_self .., Nat.lt_of_le_of_lt (m := 100000) (by rw [List.length_map]; omega) (by decide), ?_⟩
        rw [upd_mid hwt]
        refine s_if_p (fun σ' => ∃ row' wr', row'.length ≤ 6 ∧ hGood mg (rs ++ [row]) (want ++ (row' ++ [10])) wr' ∧ σ' = [.lst t, .str mg, .lst w, .str want, .int wr', x, .str row', .undef, .undef, .undef]) (ev_pre rfl rfl) ?_ ?_ ?_
        · rintro _ ⟨row', wr', q1, q2, rfl⟩
          refine s_aug ?_; dsimp only [we, wes, wbo, Option.toList, g0, g1, g2, g3, g4, g5, g6, g7, g8, g9, g10, g11, List.set_cons_zero, List.set_cons_succ, onDef, mthQ, methP, asI, asB, slQ, nn, binP, cmpQ, cmpP, subP, bfP, augP, inStr, shorts, Gl.val, tn0, tn1, tn2, tnl0, tnl1, tnl2, tnl3]
          refine ⟨szle (by (try simp only [List.length_append, List.length_cons, List.length_nil]); omega), szle (by (try simp only [List.length_append, List.length_cons, List.length_nil]); omega), s_join (s_nil ?_)⟩
          dsimp only [seqK, loopK, leave]
          exact again _ _ _ _ _ q2 p1 p2 (by omega) (by simp only [List.length_append, List.length_cons, List.length_nil]; omega) (by omega)
        · intro hq K' hK
          refine s_assign ?_; dsimp only [we, wes, wbo, Option.toList, g0, g1, g2, g3, g4, g5, g6, g7, g8, g9, g10, g11, List.set_cons_zero, List.set_cons_succ, onDef, mthQ, methP, asI, asB, slQ, nn, binP, cmpQ, cmpP, subP, bfP, augP, inStr, shorts, Gl.val, tn0, tn1, tn2, tnl0, tnl1, tnl2, tnl3]
          exact ⟨Int.natCast_nonneg _, s_nil (hK _ ⟨row.drop mg.length, wr, by rw [List.length_drop]; omega, hg.some (by rw [st1, if_pos hq]), rfl⟩)⟩
        · intro hq K' hK
          have nq : ¬((row.take mg.length == mg) = true) := by rw [hq]; decide
          refine s_if (ev_and2 (ev_nes rfl) (ev_lti rfl)) (fun hq2 => ?_) (fun hq2 => ?_)
          · rw [Bool.and_eq_true] at hq2
            refine s_assign ?_; dsimp only [we, wes, wbo, Option.toList, g0, g1, g2, g3, g4, g5, g6, g7, g8, g9, g10, g11, List.set_cons_zero, List.set_cons_succ, onDef, mthQ, methP, asI, asB, slQ, nn, binP, cmpQ, cmpP, subP, bfP, augP, inStr, shorts, Gl.val, tn0, tn1, tn2, tnl0, tnl1, tnl2, tnl3]
            refine ⟨_, by rw [upd_ne _ hwt]; exact upd_self .., s_join (s_nil (hK _ ⟨row, _, hl1, hg.turn (of_decide_eq_true hq2.2) (by rw [st1, if_neg nq, if_pos hq2.1]), ?_⟩))⟩
            rw [List.length_append, List.length_map]
            rfl
          · refine s_join (s_nil (hK _ ⟨row, wr, hl1, ?_, rfl⟩))
            by_cases hw0 : wr < 0
            · rw [decide_eq_true hw0, Bool.and_true] at hq2
              exact hg.some (by rw [st1, if_neg nq, if_neg (by rw [hq2]; decide)])
            · exact hg.bad hw0
    · intro hq K' hK
      refine s_assign ?_; dsimp only [we, wes, wbo, Option.toList, g0, g1, g2, g3, g4, g5, g6, g7, g8, g9, g10, g11, List.set_cons_zero, List.set_cons_succ, onDef, mthQ, methP, asI, asB, slQ, nn, binP, cmpQ, cmpP, subP, bfP, augP, inStr, shorts, Gl.val, tn0, tn1, tn2, tnl0, tnl1, tnl2, tnl3]
      exact ⟨szle (by (try simp only [List.length_append, List.length_cons, List.length_nil]); omega), s_nil (hK _ ⟨_, hr0.1 hq, rfl⟩)⟩
    · intro hq K' hK
      exact s_nil (hK _ ⟨_, hr0.2 hq, rfl⟩)
  · rintro σ O' ⟨rs, want, wr, a', m, s5, s6, rfl, rfl, hg, hrs, hm, h1, h2, h3⟩
    rw [List.length_nil] at hm
    have fin : Back (upd O t (tapeC tp a)) L K (.bool true) (upd (upd (upd O L .frame) w (.list (rs.map .str))) t (tapeC tp a')) := by
      have := Back.drop (a := w) (c := .list (rs.map .str)) (Back.tape (c₀ := tapeC tp a) (c := tapeC tp a') hL2 hne (k a')) (by simp) (by rw [upd_ne _ hwt]; exact hw') (by rw [upd_ne _ hwt]; exact hwO)
      rwa [upd_comm (Ne.symm hwt)] at this
    have look1 : upd (upd (upd O L .frame) w (.list (rs.map .str))) t (tapeC tp a') w = some (.list (rs.map .str)) := by rw [upd_ne _ hwt, upd_self]
    generalize upd (upd (upd O L .frame) w (.list (rs.map .str))) t (tapeC tp a') = O' at fin look1
    refine s_assign ?_; dsimp only [we, wes, wbo, Option.toList, g0, g1, g2, g3, g4, g5, g6, g7, g8, g9, g10, g11, List.set_cons_zero, List.set_cons_succ, onDef, mthQ, methP, asI, asB, slQ, nn, binP, cmpQ, cmpP, subP, bfP, augP, inStr, shorts, Gl.val, tn0, tn1, tn2, tnl0, tnl1, tnl2, tnl3]
    refine ⟨_, asL_lst look1, szle (by simp only [List.length_map, List.length_cons, List.length_nil]; omega), szle (by (try simp only [List.length_append, List.length_cons, List.length_nil]); omega), _, rfl, szle (by simp only [List.length_append, List.length_map, List.length_cons, List.length_nil]; omega), ?_⟩
    rw [show [V.str [102, 105, 114, 115, 116]] ++ rs.map V.str ++ [V.str (mg ++ [69, 78, 68]), V.str [98, 101, 104, 105, 110, 100]] = ([102, 105, 114, 115, 116] :: (rs ++ [mg ++ ENDW, [98, 101, 104, 105, 110, 100]])).map V.str by rw [List.map_cons, List.map_append]; rfl]
    have hfind : ((([102, 105, 114, 115, 116] : List Nat) :: (rs ++ [mg ++ ENDW, [98, 101, 104, 105, 110, 100]])).drop 1).findIdx? (pr (mg != []) ENDW) = some rs.length := by
      rw [List.drop_succ_cons, List.drop_zero, find_skip fun x hx => (hrs x hx).1, List.findIdx?_cons, if_pos (end_fact mg hmg)]
      simp
    have hline : (([102, 105, 114, 115, 116] : List Nat) :: (rs ++ [mg ++ ENDW, [98, 101, 104, 105, 110, 100]]))[1 + rs.length]? = some (mg ++ ENDW) := by
      rw [Nat.add_comm, List.getElem?_cons_succ, List.getElem?_append_right (Nat.le_refl _), Nat.sub_self]; rfl
    have htake : ((([102, 105, 114, 115, 116] : List Nat) :: (rs ++ [mg ++ ENDW, [98, 101, 104, 105, 110, 100]])).drop 1).take rs.length = rs := by
      rw [List.drop_succ_cons, List.drop_zero]; exact List.take_left' rfl
    have hll : (([102, 105, 114, 115, 116] : List Nat) :: (rs ++ [mg ++ ENDW, [98, 101, 104, 105, 110, 100]])).length = rs.length + 3 := by simp
    have hlr : ∀ x ∈ (([102, 105, 114, 115, 116] : List Nat) :: (rs ++ [mg ++ ENDW, [98, 101, 104, 105, 110, 100]])), x.length ≤ 100 := fun x hx => by
      rcases List.mem_cons.mp hx with rfl | hx
      · decide
      rcases List.mem_append.mp hx with hx | hx
      · have := (hrs x hx).2.2; omega
      · simp only [List.mem_cons, List.not_mem_nil, or_false] at hx
        rcases hx with rfl | rfl
        · simp; omega
        · decide
    have hcut : cutL (([102, 105, 114, 115, 116] :: (rs ++ [mg ++ ENDW, [98, 101, 104, 105, 110, 100]])).map V.str) none (some ((rs.length + 1 : Nat) : Int)) = ([102, 105, 114, 115, 116] :: rs).map V.str := by
      show (((([102, 105, 114, 115, 116] : List Nat) :: (rs ++ [mg ++ ENDW, [98, 101, 104, 105, 110, 100]])).map V.str).take (rs.length + 1)).drop 0 = _
      rw [List.drop_zero, ← List.map_take, List.take_succ_cons, List.take_left' rfl]
    generalize (([102, 105, 114, 115, 116] : List Nat) :: (rs ++ [mg ++ ENDW, [98, 101, 104, 105, 110, 100]])) = ls at hfind hline htake hll hlr hcut ⊢
    refine s_try ?_
    refine s_assign ?_; dsimp only [we, wes, wbo, Option.toList, g0, g1, g2, g3, g4, g5, g6, g7, g8, g9, g10, g11, List.set_cons_zero, List.set_cons_succ, onDef, mthQ, methP, asI, asB, slQ, nn, binP, cmpQ, cmpP, subP, bfP, augP, inStr, shorts, Gl.val, tn0, tn1, tn2, tnl0, tnl1, tnl2, tnl3]
    refine here_body_c (a := 1) (by omega) hlr (by omega) hfind hline (by simp) ?_
    rw [htake, show (mg ++ ENDW).take ((mg ++ ENDW).length - ENDW.length) = mg by simp]
    rcases hg with ⟨rfl, hg⟩ | ⟨e, rfl, hg⟩
    · rw [hg]
      refine s_join ?_
      refine s_ifs ?_; dsimp only [we, wes, wbo, Option.toList, g0, g1, g2, g3, g4, g5, g6, g7, g8, g9, g10, g11, List.set_cons_zero, List.set_cons_succ, onDef, mthQ, methP, asI, asB, slQ, nn, binP, cmpQ, cmpP, subP, bfP, augP, inStr, shorts, Gl.val, tn0, tn1, tn2, tnl0, tnl1, tnl2, tnl3]
      refine i_f rfl ?_
      refine ⟨_, look1, ?_⟩
      rw [List.length_map]
      refine i_f ?_ (i_f ?_ (s_join ?_))
      · rw [show (((1 + rs.length : Nat) : Int) + 1 == (rs.length : Int) + 2) = true by rw [beq_iff_eq]; omega]; simp
      · rw [show (((1 + rs.length : Nat) : Int) + 1 == (rs.length : Int) + 2) = true by rw [beq_iff_eq]; omega]; simp
      refine s_try ?_
      refine s_expr ?_; dsimp only [we, wes, wbo, Option.toList, g0, g1, g2, g3, g4, g5, g6, g7, g8, g9, g10, g11, List.set_cons_zero, List.set_cons_succ, onDef, mthQ, methP, asI, asB, slQ, nn, binP, cmpQ, cmpP, subP, bfP, augP, inStr, shorts, Gl.val, tn0, tn1, tn2, tnl0, tnl1, tnl2, tnl3]
      refine ⟨_, look1, ?_⟩
      rw [List.length_map, show (rs.length : Int) + 1 = ((rs.length + 1 : Nat) : Int) from rfl]
      refine ⟨Int.natCast_nonneg _, rfl, by simp, ?_⟩
      rw [hcut]
      refine here_body_none (a := 1) (by simp; omega) (by simp) ?_ ?_
      · rw [List.drop_succ_cons, List.drop_zero, List.findIdx?_eq_none_iff]
        exact fun x hx => (hrs x hx).2.1
      · exact fin
    · rw [hg]
      rintro _ rfl
      dsimp only [we, wes, wbo, Option.toList, g0, g1, g2, g3, g4, g5, g6, g7, g8, g9, g10, g11, List.set_cons_zero, List.set_cons_succ, onDef, mthQ, methP, asI, asB, slQ, nn, binP, cmpQ, cmpP, subP, bfP, augP, inStr, shorts, Gl.val, tn0, tn1, tn2, tnl0, tnl1, tnl2, tnl3]
      rw [decide_eq_true (Int.natCast_nonneg _)]
      refine i_f rfl ?_
      rw [show (((e + 1 : Nat) : Int) == (e : Int) + 1) = true from beq_self_eq_true _]
      exact i_f rfl ⟨rfl, fin⟩
end

end Mine
end
section
open PySem PySem.W PySem.Calls PyProof.Rows
set_option Elab.async false
set_option maxRecDepth 8000
set_option maxHeartbeats 2000000
set_option linter.all false
namespace Mine
noncomputable abbrev TEXT : List Nat := [116, 101, 120, 116]
noncomputable def pv : Option (List Nat) → List V
  | none => []
  | some x => [.tup [.str TEXT, .str x]]
/-- the stack of cases, one frame -/
structure Stk (B O : MH) (s e p : Addr) (x : Option (List Nat)) : Prop where
  agree : ∀ a, B a ≠ none → O a = B a
  bs : B s = none
  be : B e = none
  bp : B p = none
  hs : O s = some (.list [.lst e])
  he : O e = some (.list [.str [], .lst p])
  hp : O p = some (.list (pv x))
/-- two frames -/
structure Stk2 (B O : MH) (s e p e' p' : Addr) (x : Option (List Nat)) (m : List Nat) (y : Option (List Nat)) : Prop where
  agree : ∀ a, B a ≠ none → O a = B a
  bs : B s = none
  be : B e = none
  bp : B p = none
  be' : B e' = none
  bp' : B p' = none
  hs : O s = some (.list [.lst e, .lst e'])
  he : O e = some (.list [.str [], .lst p])
  hp : O p = some (.list (pv x))
  he' : O e' = some (.list [.str m, .lst p'])
  hp' : O p' = some (.list (pv y))
  ne : p ≠ p'
theorem ne_cell {O : MH} {a b : Addr} {l r : List V} (h : O a = some (.list l)) (h' : O b = some (.list r)) (n : l ≠ r) : a ≠ b := by
  rintro rfl; rw [h] at h'; cases h'; exact n rfl
theorem pv_len (x : Option (List Nat)) : (pv x).length ≤ 1 := by cases x <;> simp [pv]
theorem pv_ne1 (x : Option (List Nat)) (e : Addr) : pv x ≠ [.lst e] := by cases x <;> simp [pv]
theorem ne_len {l r : List V} (h : l.length ≠ r.length) : l ≠ r := by rintro rfl; exact h rfl
theorem pv_ne2 (x : Option (List Nat)) (v w : V) : pv x ≠ [v, w] := ne_len (by have := pv_len x; simp only [List.length_cons, List.length_nil]; omega)
theorem agree_enter {B O : MH} {L : Addr} (h : ∀ a, B a ≠ none → O a = B a) : ∀ a, upd B L .frame a ≠ none → upd O L .frame a = upd B L .frame a := fun a ha => by
  by_cases q : a = L
  · subst q; rw [upd_self, upd_self]
  · rw [upd_ne _ q] at ha ⊢; rw [upd_ne _ q]; exact h a ha
theorem enter_cell {O : MH} {L a : Addr} {l : List V} (hL : O L = none) (h : O a = some (.list l)) : upd O L .frame a = some (.list l) := by
  rw [upd_ne _ (ne_of hL h)]; exact h
theorem enter_none {B O : MH} {L a : Addr} {l : List V} (hL : O L = none) (h : O a = some (.list l)) (b : B a = none) : upd B L .frame a = none := by
  rw [upd_ne _ (ne_of hL h)]; exact b
theorem Stk.enter {B O : MH} {s e p L : Addr} {x : Option (List Nat)} (h : Stk B O s e p x) (hL : O L = none) : Stk (upd B L .frame) (upd O L .frame) s e p x :=
  ⟨agree_enter h.agree, enter_none hL h.hs h.bs, enter_none hL h.he h.be, enter_none hL h.hp h.bp, enter_cell hL h.hs, enter_cell hL h.he, enter_cell hL h.hp⟩
theorem Stk2.enter {B O : MH} {s e p e' p' L : Addr} {x y : Option (List Nat)} {m : List Nat} (h : Stk2 B O s e p e' p' x m y) (hL : O L = none) : Stk2 (upd B L .frame) (upd O L .frame) s e p e' p' x m y :=
  ⟨agree_enter h.agree, enter_none hL h.hs h.bs, enter_none hL h.he h.be, enter_none hL h.hp h.bp, enter_none hL h.he' h.be', enter_none hL h.hp' h.bp', enter_cell hL h.hs, enter_cell hL h.he, enter_cell hL h.hp, enter_cell hL h.he', enter_cell hL h.hp', h.ne⟩
noncomputable def cutO (O : MH) (L : Addr) : MH := fun a => if a = L then none else O a
theorem cut_cell {O : MH} {L a : Addr} {l : List V} (hL : O L = some .frame) (h : O a = some (.list l)) : cutO O L a = some (.list l) := by
  have : a ≠ L := by rintro rfl; rw [h] at hL; cases hL
  exact (if_neg this).trans h
theorem agree_leave {B O : MH} {L : Addr} (hB : B L = none) (h : ∀ a, upd B L .frame a ≠ none → O a = upd B L .frame a) : ∀ a, B a ≠ none → cutO O L a = B a := fun a ha => by
  have q : a ≠ L := by rintro rfl; exact ha hB
  have := h a (by rw [upd_ne _ q]; exact ha)
  rw [upd_ne _ q] at this
  exact (if_neg q).trans this
theorem frame_at {B O : MH} {L : Addr} (h : ∀ a, upd B L .frame a ≠ none → O a = upd B L .frame a) : O L = some .frame := by
  have := h L (by rw [upd_self]; simp)
  rwa [upd_self] at this
theorem Stk.leave {B O : MH} {s e p L : Addr} {x : Option (List Nat)} (hB : B L = none) (h : Stk (upd B L .frame) O s e p x) : Stk B (cutO O L) s e p x :=
  have f := frame_at h.agree
  ⟨agree_leave hB h.agree, (ne2 h.bs).2, (ne2 h.be).2, (ne2 h.bp).2, cut_cell f h.hs, cut_cell f h.he, cut_cell f h.hp⟩
theorem Stk2.leave {B O : MH} {s e p e' p' L : Addr} {x y : Option (List Nat)} {m : List Nat} (hB : B L = none) (h : Stk2 (upd B L .frame) O s e p e' p' x m y) : Stk2 B (cutO O L) s e p e' p' x m y :=
  have f := frame_at h.agree
  ⟨agree_leave hB h.agree, (ne2 h.bs).2, (ne2 h.be).2, (ne2 h.bp).2, (ne2 h.be').2, (ne2 h.bp').2, cut_cell f h.hs, cut_cell f h.he, cut_cell f h.hp, cut_cell f h.he', cut_cell f h.hp', h.ne⟩
theorem Back.cut {O O' : MH} {L : Addr} {K : V → MH → Prop} {v : V} (hO : O L = none) (k : K v (cutO O' L)) : Back O L K v O' :=
  ⟨cutO O' L, fun a => by by_cases q : a = L <;> simp [cutO, q], if_pos rfl, fun b hb => if_neg (by rintro rfl; exact hb hO), .inl k⟩
theorem base_none {B O : MH} {L : Addr} (h : ∀ a, B a ≠ none → O a = B a) (hL : O L = none) : B L = none := by
  cases q : B L with
  | none => rfl
  | some c => have := h L (by rw [q]; simp); rw [hL, q] at this; cases this
/-- the state of the stack -/
noncomputable abbrev Top := Option (List Nat × Option (List Nat))
noncomputable def Sk (B O : MH) (s e p : Addr) (x : Option (List Nat)) : Top → Prop
  | none => Stk B O s e p x
  | some (m, y) => ∃ e' p', Stk2 B O s e p e' p' x m y
theorem Sk.enter {B O : MH} {s e p L : Addr} {x : Option (List Nat)} {st : Top} (h : Sk B O s e p x st) (hL : O L = none) : Sk (upd B L .frame) (upd O L .frame) s e p x st := by
  rcases st with _ | ⟨m, y⟩
  · exact Stk.enter h hL
  · obtain ⟨e', p', h⟩ := h; exact ⟨e', p', h.enter hL⟩
theorem Sk.leave {B O : MH} {s e p L : Addr} {x : Option (List Nat)} {st : Top} (hB : B L = none) (h : Sk (upd B L .frame) O s e p x st) : Sk B (cutO O L) s e p x st := by
  rcases st with _ | ⟨m, y⟩
  · exact Stk.leave hB h
  · obtain ⟨e', p', h⟩ := h; exact ⟨e', p', h.leave hB⟩
theorem Sk.agree {B O : MH} {s e p : Addr} {x : Option (List Nat)} {st : Top} (h : Sk B O s e p x st) : ∀ a, B a ≠ none → O a = B a := by
  rcases st with _ | ⟨m, y⟩
  · exact Stk.agree h
  · obtain ⟨e', p', h⟩ := h; exact h.agree
/-- a cell of the stack is changed -/
theorem agree_upd {B O : MH} {a : Addr} {c : Cell} (h : ∀ a, B a ≠ none → O a = B a) (ha : B a = none) : ∀ b, B b ≠ none → upd O a c b = B b := fun b hb => by
  rw [upd_ne _ (by rintro rfl; exact hb ha)]; exact h b hb
theorem Stk.setp {B O : MH} {s e p : Addr} {x z : Option (List Nat)} (h : Stk B O s e p x) : Stk B (upd O p (.list (pv z))) s e p z :=
  ⟨agree_upd h.agree h.bp, h.bs, h.be, h.bp, by rw [upd_ne _ (ne_cell h.hs h.hp (pv_ne1 x e).symm)]; exact h.hs, by rw [upd_ne _ (ne_cell h.he h.hp (pv_ne2 x _ _).symm)]; exact h.he, upd_self ..⟩
theorem Stk2.setp {B O : MH} {s e p e' p' : Addr} {x y z : Option (List Nat)} {m : List Nat} (h : Stk2 B O s e p e' p' x m y) : Stk2 B (upd O p' (.list (pv z))) s e p e' p' x m z :=
  ⟨agree_upd h.agree h.bp', h.bs, h.be, h.bp, h.be', h.bp', by rw [upd_ne _ (ne_cell h.hs h.hp' (pv_ne2 y _ _).symm)]; exact h.hs, by rw [upd_ne _ (ne_cell h.he h.hp' (pv_ne2 y _ _).symm)]; exact h.he,
    by rw [upd_ne _ h.ne]; exact h.hp, by rw [upd_ne _ (ne_cell h.he' h.hp' (pv_ne2 y _ _).symm)]; exact h.he', upd_self .., h.ne⟩
theorem Stk2.pop {B O : MH} {s e p e' p' : Addr} {x y : Option (List Nat)} {m : List Nat} (h : Stk2 B O s e p e' p' x m y) : Stk B (upd O s (.list [.lst e])) s e p x ∧ upd O s (.list [.lst e]) e' = some (.list [.str m, .lst p']) ∧ upd O s (.list [.lst e]) p' = some (.list (pv y)) := by
  refine ⟨⟨agree_upd h.agree h.bs, h.bs, h.be, h.bp, upd_self .., ?_, ?_⟩, ?_, ?_⟩
  · rw [upd_ne _ (ne_cell h.he h.hs (by simp))]; exact h.he
  · rw [upd_ne _ (ne_cell h.hp h.hs (pv_ne2 _ _ _))]; exact h.hp
  · rw [upd_ne _ (ne_cell h.he' h.hs (by simp))]; exact h.he'
  · rw [upd_ne _ (ne_cell h.hp' h.hs (pv_ne2 _ _ _))]; exact h.hp'
theorem Stk.push {B O : MH} {s e p e' p' : Addr} {x : Option (List Nat)} {m : List Nat} (h : Stk B O s e p x) (hp' : O p' = none) (he' : upd O p' (.list []) e' = none) :
    Stk2 B (upd (upd (upd O p' (.list [])) e' (.list [.str m, .lst p'])) s (.list [.lst e, .lst e'])) s e p e' p' x m none := by
  obtain ⟨n1, he0⟩ := ne2 he'
  have b1 := base_none h.agree hp'
  have b2 := base_none h.agree he0
  have nn : ∀ {a b : Addr} {l : List V}, O a = none → O b = some (.list l) → b ≠ a := fun q r => by rintro rfl; rw [q] at r; cases r
  refine ⟨agree_upd (agree_upd (agree_upd h.agree b1) b2) h.bs, h.bs, h.be, h.bp, b2, b1, upd_self .., ?_, ?_, ?_, ?_, nn hp' h.hp⟩
  · rw [upd_ne _ (ne_cell h.he h.hs (by simp)), upd_ne _ (nn he0 h.he), upd_ne _ (nn hp' h.he)]; exact h.he
  · rw [upd_ne _ (ne_cell h.hp h.hs (pv_ne1 _ _)), upd_ne _ (nn he0 h.hp), upd_ne _ (nn hp' h.hp)]; exact h.hp
  · rw [upd_ne _ (nn he0 h.hs).symm, upd_self]
  · rw [upd_ne _ (nn hp' h.hs).symm, upd_ne _ n1.symm, upd_self]; rfl
section
variable {C : CallP} {σ : List V} {O : MH}
theorem ev_last {i : Nat} {q1 q2 q3 q4 q5 q6 q7 : Pos} {s : Addr} {l : List V} {v : V} (h : gv σ i = .lst s) (hs : O s = some (.list (l ++ [v]))) : Ev C σ O (.sub (.loc i q1) (.bin .Sub (.bcall .len q2 (.loc i q3) q4) (.int 1 q5) q6) q7) v :=
  ⟨fun k => by
    rw [we, we, h]
    show we _ _ _ _ _ _
    rw [we, we, we, h]
    refine ⟨_, hs, ?_⟩
    show we _ _ _ _ _ _
    rw [we]
    refine ⟨_, v, hs, ?_, k⟩
    rw [List.length_append]
    show at? _ (((l.length + 1 : Nat) : Int) - 1) = _
    rw [show (((l.length + 1 : Nat) : Int) - 1) = (l.length : Int) by omega, at_nat, List.getElem?_append_right (Nat.le_refl _), Nat.sub_self]; rfl⟩
theorem ev_subl {a : X} {j : Nat} {q1 q2 : Pos} {e : Addr} {l : List V} {v : V} (ha : Ev C σ O a (.lst e)) (he : O e = some (.list l)) (hv : l[j]? = some v) : Ev C σ O (.sub a (.int (j : Int) q1) q2) v :=
  ⟨fun k => by rw [we]; refine ha.go ?_; rw [we]; exact ⟨l, v, he, by rw [at_nat]; exact hv, k⟩⟩
theorem ev_subt {a : X} {j : Nat} {q1 q2 : Pos} {l : List V} {v : V} (ha : Ev C σ O a (.tup l)) (hv : l[j]? = some v) : Ev C σ O (.sub a (.int (j : Int) q1) q2) v :=
  ⟨fun k => by rw [we]; refine ha.go ?_; rw [we]; exact ⟨Int.natCast_nonneg _, v, hv, k⟩⟩
theorem ev_eqx {a : X} {q r : Pos} {m u : List Nat} (h : Ev C σ O a (.str m)) : Ev C σ O (.cmp .Eq a (.str u q) r) (.bool (m == u)) := ⟨fun k => by rw [we]; refine h.go ?_; rw [we]; exact k⟩
theorem ev_nex {a : X} {q r : Pos} {m u : List Nat} (h : Ev C σ O a (.str m)) : Ev C σ O (.cmp .NotEq a (.str u q) r) (.bool (m != u)) := ⟨fun k => by rw [we]; refine h.go ?_; rw [we]; exact k⟩
theorem ev_lenl {i : Nat} {p q r : Pos} {s : Addr} {l : List V} (h : gv σ i = .lst s) (hs : O s = some (.list l)) : Ev C σ O (.bcall .len p (.loc i q) r) (.int l.length) := ⟨fun k => by rw [we, we, h]; exact ⟨l, hs, k⟩⟩
theorem ev_gti {a : X} {p q : Pos} {m u : Int} (h : Ev C σ O a (.int m)) : Ev C σ O (.cmp .Gt a (.int u p) q) (.bool (decide (m > u))) := ⟨fun k => by rw [we]; refine h.go ?_; rw [we]; exact k⟩
theorem ev_eqn {a : X} {p q : Pos} {m u : Int} (h : Ev C σ O a (.int m)) : Ev C σ O (.cmp .Eq a (.int u p) q) (.bool (m == u)) := ⟨fun k => by rw [we]; refine h.go ?_; rw [we]; exact k⟩
theorem ev_ins {a b : X} {q : Pos} {m u : List Nat} {r : Bool} (h : Ev C σ O a (.str m)) (h' : Ev C σ O b (.str u)) (e : inStr m u = some r) : Ev C σ O (.cmp .In a b q) (.bool r) := ⟨fun k => by rw [we]; refine h.go (h'.go ?_); exact ⟨r, e, k⟩⟩
theorem ev_gl {g : Gl} {p : Pos} : Ev C σ O (.gl g p) g.val := ⟨fun k => by rw [we]; exact k⟩
theorem ev_str {x : List Nat} {p : Pos} : Ev C σ O (.str x p) (.str x) := ⟨fun k => by rw [we]; exact k⟩
theorem ev_andf {x y : X} {ys : Xs} {a : Bool} {p : Pos} (hx : Ev C σ O x (.bool a)) (hy : Ev C σ O y (.bool false)) : Ev C σ O (.boolop .And x (.cons y ys) p) (.bool false) :=
  ⟨fun k => by
    rw [we]
    refine hx.go ?_; dsimp only [asB]
    cases a with
    | false => exact i_t rfl k
    | true => refine i_f rfl ?_; rw [wbo]; refine hy.go ?_; dsimp only [asB]; exact i_t rfl k⟩
theorem ev_andF {x : X} {ys : Xs} {p : Pos} (hx : Ev C σ O x (.bool false)) : Ev C σ O (.boolop .And x ys p) (.bool false) :=
  ⟨fun k => by rw [we]; refine hx.go ?_; dsimp only [asB]; exact i_t rfl k⟩
end

end Mine
end
section
open PySem PySem.W PySem.Calls PyProof.Rows
set_option Elab.async false
set_option maxRecDepth 8000
set_option maxHeartbeats 2000000
set_option linter.all false
namespace Mine
noncomputable abbrev longL : List (List Nat) := [[85], [76], [81], [70]]
noncomputable abbrev shortL : List (List Nat) := [[117], [108]]
noncomputable def addS (x : Option (List Nat)) (z : List Nat) : Top → Option (Option (List Nat) × Top)
  | none => some (some (x.getD [] ++ z), none)
  | some (m, y) => if m ∈ longL then some (x, some (m, some (y.getD [] ++ z))) else if m ∈ shortL ∧ y = none then some (some (x.getD [] ++ cas m z), none) else none
noncomputable def endS (x : Option (List Nat)) : Top → Option (Option (List Nat) × Top)
  | none => some (x, none)
  | some (m, some y) => if m ∈ longL then some (some (x.getD [] ++ cas m y), none) else none
  | some (_, none) => none
theorem cas_len (m x : List Nat) : (cas m x).length ≤ 2 * x.length := by
  have h1 : ∀ m', ((x.take 1).flatMap (f1 m')).length + (x.drop 1).length ≤ 2 * x.length := fun m' => by
    have := fm_len m' (x.take 1)
    rw [List.length_take] at this
    rw [List.length_drop]
    omega
  unfold cas
  split
  · rw [List.length_append]; exact h1 _
  · split
    · rw [List.length_append]; exact h1 _
    · exact fm_len m x
/-- what the state weighs -/
noncomputable def wt (x : Option (List Nat)) : Top → Nat
  | some (_, some y) => (x.getD []).length + 2 * y.length
  | _ => (x.getD []).length
section
variable {C : CallP} {σ : List V} {O : MH}
theorem ev_ulf {a : X} {p1 p2 p3 p4 p5 : Pos} {x : List Nat} (h : Ev C σ O a (.str x)) : Ev C σ O (.cmp .In a (.tup (.cons (.str [85] p1) (.cons (.str [76] p2) (.cons (.str [70] p3) .nil))) p4) p5) (.bool (([[85], [76], [70]] : List (List Nat)).contains x)) :=
  ⟨fun k => by rw [we]; refine h.go ?_; rw [we, wes, we]; show wes _ _ _ _ _ _; rw [wes, we]; show wes _ _ _ _ _ _; rw [wes, we]; show wes _ _ _ _ _ _; rw [wes]; exact ⟨_, rfl, k⟩⟩
theorem wh_c {t : X} {A D : MH → Prop} {E : Int → MH → Prop} {c : Bool} (h : Ev C σ O t (.bool c)) (k1 : c = true → A O) (k2 : c = false → D O) : we C σ t O (fun v O₁ => asB v fun c => if c = true then A O₁ else D O₁) E := h.go (i_s k1 k2)
theorem ev_text2 {a b : X} {q q' p : Pos} {x y : List Nat} (ha : Ev C σ O a (.str x)) (hb : Ev C σ O b (.str y)) (hz : x.length + y.length ≤ SZ) : Ev C σ O (.tup (.cons (.str TEXT q) (.cons (.bin .Add a b q') .nil)) p) (.tup [.str TEXT, .str (x ++ y)]) :=
  ⟨fun k => by rw [we, wes, we]; show wes _ _ _ _ _ _; rw [wes, we]; refine ha.go (hb.go ⟨hz, ?_⟩); show wes _ _ _ _ _ _; rw [wes]; exact k⟩
end
section
variable {n : Nat} {O : MH} {K : V → MH → Prop} {E : Int → MH → Prop} {B : MH} {s e p e' p' : Addr} {x y : Option (List Nat)} {m z : List Nat}
theorem add_walk {l : List V} {K' : Fl → List V → MH → Prop} (hs : O s = some (.list (l ++ [.lst e]))) (he : O e = some (.list [.str m, .lst p])) (hp : O p = some (.list (pv y))) (hz : (y.getD []).length + z.length ≤ 100000)
    (k : Hold (wsb (CC n) d_add_part_4 [.lst s, .tup [.str TEXT, .str z], .lst p] (upd O p (.list (pv (some (y.getD [] ++ z))))) K' E)) : Hold (wsb (CC n) d_add_part_6 [.lst s, .tup [.str TEXT, .str z], .undef] O K' E) := by
  refine s_assign ((ev_subl (j := 1) (ev_last rfl hs) he rfl).go ?_)
  dsimp only [we, wes, wbo, Option.toList, g0, g1, g2, g3, g4, g5, g6, g7, g8, g9, g10, g11, List.set_cons_zero, List.set_cons_succ, onDef, mthQ, methP, asI, asB, slQ, nn, binP, cmpQ, cmpP, subP, bfP, augP, inStr, shorts, Gl.val, tn0, tn1, tn2, tnl0, tnl1, tnl2, tnl3]
  cases y with
  | none =>
    refine s_if (ev_andf (ev_eqx (ev_subt (j := 0) (ev_loc rfl rfl) rfl)) (ev_gti (ev_lenl rfl hp))) (fun q => nomatch q) (fun _ => ?_)
    refine s_expr ?_; dsimp only [we, wes, wbo, Option.toList, g0, g1, g2, g3, g4, g5, g6, g7, g8, g9, g10, g11, List.set_cons_zero, List.set_cons_succ, onDef, mthQ, methP, asI, asB, slQ, nn, binP, cmpQ, cmpP, subP, bfP, augP, inStr, shorts, Gl.val, tn0, tn1, tn2, tnl0, tnl1, tnl2, tnl3]
    exact ⟨⟨_, hp⟩, _, hp, by decide, s_join k⟩
  | some y =>
    refine s_if (ev_and3 (ev_eqx (ev_subt (j := 0) (ev_loc rfl rfl) rfl)) (ev_gti (ev_lenl rfl hp)) (ev_eqx (ev_subt (j := 0) (ev_last (l := []) rfl hp) rfl))) (fun _ => ?_) (fun q => absurd (show true = false from q) (by decide))
    refine s_setsub ((ev_text2 (ev_subt (j := 1) (ev_last (l := []) rfl hp) rfl) (ev_subt (j := 1) (ev_loc rfl rfl) rfl) (szle (Nat.le_trans hz (by decide)))).go ?_)
    dsimp only [we, wes, wbo, Option.toList, g0, g1, g2, g3, g4, g5, g6, g7, g8, g9, g10, g11, List.set_cons_zero, List.set_cons_succ, onDef, mthQ, methP, asI, asB, slQ, nn, binP, cmpQ, cmpP, subP, bfP, augP, inStr, shorts, Gl.val, tn0, tn1, tn2, tnl0, tnl1, tnl2, tnl3]
    exact ⟨_, hp, _, hp, (by decide : (0 : Int) ≤ ((1 : Nat) : Int) - 1), (by decide : ((1 : Nat) : Int) - 1 < ((1 : Nat) : Int)), s_join k⟩
theorem add0_c (h : Stk B O s e p x) (hz : (x.getD []).length + z.length ≤ 100000) (k : ∀ O', Stk B O' s e p (some (x.getD [] ++ z)) → K .none O') : Hold (CC (n + 1) .add_part [.lst s, .tup [.str TEXT, .str z]] O K E) := by
  refine ⟨⟨rfl, fun L hL => Hold.out ?_⟩⟩; dsimp only [start, names, ar, List.length_cons, List.length_nil, Nat.zero_add, Nat.reduceAdd, Nat.reduceSub, Nat.sub_self, List.replicate, List.append_nil, List.cons_append, List.nil_append]
  have hB := base_none h.agree hL
  have h' := h.enter hL
  generalize upd O L .frame = O₁ at h' ⊢
  refine add_walk (l := []) h'.hs h'.he h'.hp hz ?_
  have h2 := h'.setp (z := some (x.getD [] ++ z))
  generalize upd O₁ p _ = O₂ at h2 ⊢
  refine s_if (ev_and2 (ev_ins (ev_subl (j := 0) (ev_last (l := []) rfl h2.hs) h2.he rfl) ev_gl (r := true) rfl) (ev_nex (ev_subl (j := 0) (ev_last (l := []) rfl h2.hs) h2.he rfl))) (fun q => absurd q (by decide)) (fun _ => s_join (s_nil ?_))
  dsimp only [seqK, loopK, leave]
  exact .cut hL (k _ (h2.leave hB))
theorem close_c {y : List Nat} (h : Stk2 B O s e p e' p' x m (some y)) (hz : (x.getD []).length + 2 * y.length ≤ 100000) (k : ∀ O', Stk B O' s e p (some (x.getD [] ++ cas m y)) → K .none O') : Hold (CC (n + 4) .close_case [.lst s] O K E) := by
  refine ⟨⟨rfl, fun L hL => Hold.out ?_⟩⟩; dsimp only [start, names, ar, List.length_cons, List.length_nil, Nat.zero_add, Nat.reduceAdd, Nat.reduceSub, Nat.sub_self, List.replicate, List.append_nil, List.cons_append, List.nil_append]
  have hB := base_none h.agree hL
  have h' := h.enter hL
  generalize upd O L .frame = O₁ at h' ⊢
  refine s_unpack ?_; dsimp only [we, wes, wbo, Option.toList, g0, g1, g2, g3, g4, g5, g6, g7, g8, g9, g10, g11, List.set_cons_zero, List.set_cons_succ, onDef, mthQ, methP, asI, asB, slQ, nn, binP, cmpQ, cmpP, subP, bfP, augP, inStr, shorts, Gl.val, tn0, tn1, tn2, tnl0, tnl1, tnl2, tnl3]
  obtain ⟨g1, g2, g3⟩ := h'.pop
  refine ⟨⟨_, h'.hs⟩, [.lst e], .lst e', h'.hs, _, _, g2, ?_⟩
  generalize upd O₁ s _ = O₂ at g1 g2 g3 ⊢
  refine s_if (ev_and2 (ev_eqn (ev_lenl rfl g3)) (ev_eqx (ev_subt (j := 0) (ev_subl (j := 0) (ev_loc rfl rfl) g3 rfl) rfl))) (fun _ => ?_) (fun q => absurd (show true = false from q) (by decide))
  refine s_expr ?_; dsimp only [we, wes, wbo, Option.toList, g0, g1, g2, g3, g4, g5, g6, g7, g8, g9, g10, g11, List.set_cons_zero, List.set_cons_succ, onDef, mthQ, methP, asI, asB, slQ, nn, binP, cmpQ, cmpP, subP, bfP, augP, inStr, shorts, Gl.val, tn0, tn1, tn2, tnl0, tnl1, tnl2, tnl3]
  refine ⟨_, _, g3, rfl, ?_⟩
  dsimp only [we, wes, wbo, Option.toList, g0, g1, g2, g3, g4, g5, g6, g7, g8, g9, g10, g11, List.set_cons_zero, List.set_cons_succ, onDef, mthQ, methP, asI, asB, slQ, nn, binP, cmpQ, cmpP, subP, bfP, augP, inStr, shorts, Gl.val, tn0, tn1, tn2, tnl0, tnl1, tnl2, tnl3]
  refine ⟨by decide, _, rfl, cas_c (by omega) ?_⟩
  refine add0_c g1 ?_ fun O' h2 => s_join (s_nil ?_)
  · have : (cas m y).length ≤ 2 * y.length := cas_len m y
    omega
  · dsimp only [seqK, loopK, leave]
    exact .cut hL (k _ (h2.leave hB))
theorem add_c {st st' : Top} {x' : Option (List Nat)} (h : Sk B O s e p x st) (ha : addS x z st = some (x', st')) (hz : wt x st + 2 * z.length ≤ 50000) (k : ∀ O', Sk B O' s e p x' st' → K .none O') : Hold (CC (n + 5) .add_part [.lst s, .tup [.str TEXT, .str z]] O K E) := by
  rcases st with _ | ⟨m, y⟩
  · cases ha
    have : (x.getD []).length + 2 * z.length ≤ 50000 := hz
    exact add0_c h (by omega) k
  · obtain ⟨e', p', h⟩ := h
    have hy : (x.getD []).length + 2 * (y.getD []).length + 2 * z.length ≤ 50000 := by
      cases y with
      | none => exact hz
      | some y => exact hz
    refine ⟨⟨rfl, fun L hL => Hold.out ?_⟩⟩; dsimp only [start, names, ar, List.length_cons, List.length_nil, Nat.zero_add, Nat.reduceAdd, Nat.reduceSub, Nat.sub_self, List.replicate, List.append_nil, List.cons_append, List.nil_append]
    have hB := base_none h.agree hL
    have h' := h.enter hL
    generalize upd O L .frame = O₁ at h' ⊢
    refine add_walk (l := [.lst e]) h'.hs h'.he' h'.hp' (by omega) ?_
    have h2 := h'.setp (z := some (y.getD [] ++ z))
    generalize upd O₁ p' _ = O₂ at h2 ⊢
    unfold addS at ha
    dsimp only at ha
    by_cases h1 : m ∈ longL
    · rw [if_pos h1] at ha
      cases ha
      refine s_if (ev_andF (ev_ins (r := false) (ev_subl (j := 0) (ev_last (l := [.lst e]) rfl h2.hs) h2.he' rfl) ev_gl ((by decide : ∀ m ∈ longL, inStr m [117, 108] = some false) m h1))) (fun q => nomatch q) (fun _ => s_join (s_nil ?_))
      dsimp only [seqK, loopK, leave]
      exact .cut hL (k _ ⟨_, _, h2.leave hB⟩)
    · rw [if_neg h1] at ha
      by_cases h3 : m ∈ shortL ∧ y = none
      · rw [if_pos h3] at ha
        cases ha
        obtain ⟨h3, rfl⟩ := h3
        have hm := (by decide : ∀ m ∈ shortL, inStr m [117, 108] = some true ∧ (m != []) = true) m h3
        refine s_if (ev_and2 (ev_ins (r := true) (ev_subl (j := 0) (ev_last (l := [.lst e]) rfl h2.hs) h2.he' rfl) ev_gl hm.1) (ev_nex (ev_subl (j := 0) (ev_last (l := [.lst e]) rfl h2.hs) h2.he' rfl))) (fun _ => ?_) (fun q => absurd q (by rw [hm.2]; decide))
        refine s_expr ?_; dsimp only [we, wes, wbo, Option.toList, g0, g1, g2, g3, g4, g5, g6, g7, g8, g9, g10, g11, List.set_cons_zero, List.set_cons_succ, onDef, mthQ, methP, asI, asB, slQ, nn, binP, cmpQ, cmpP, subP, bfP, augP, inStr, shorts, Gl.val, tn0, tn1, tn2, tnl0, tnl1, tnl2, tnl3]
        refine close_c h2 (by simp only [Option.getD_none, List.nil_append, List.length_nil] at hy ⊢; omega) fun O' h4 => s_join (s_nil ?_)
        dsimp only [seqK, loopK, leave]
        exact .cut hL (k _ (h4.leave hB))
      · rw [if_neg h3] at ha; cases ha
theorem end_c {st st' : Top} {x' : Option (List Nat)} (h : Sk B O s e p x st) (ha : endS x st = some (x', st')) (hz : wt x st ≤ 50000) (k : ∀ O', Sk B O' s e p x' st' → K .none O') : Hold (CC (n + 5) .end_case [.lst s] O K E) := by
  rcases st with _ | ⟨m, _ | y⟩
  · cases ha
    refine ⟨⟨rfl, fun L hL => Hold.out ?_⟩⟩; dsimp only [start, names, ar, List.length_cons, List.length_nil, Nat.zero_add, Nat.reduceAdd, Nat.reduceSub, Nat.sub_self, List.replicate, List.append_nil, List.cons_append, List.nil_append]
    have hB := base_none h.agree hL
    have h' : Stk _ _ _ _ _ _ := h.enter hL
    generalize upd O L .frame = O₁ at h' ⊢
    refine s_while (fun _ σ O' => σ = [.lst s] ∧ O' = O₁) 0 ⟨rfl, rfl⟩ ?_
    rintro _ σ O' ⟨rfl, rfl⟩
    refine wh_c (ev_andF (ev_gti (ev_lenl rfl h'.hs))) (fun q => nomatch q) (fun _ => ?_)
    refine s_if (ev_gti (ev_lenl rfl h'.hs)) (fun q => nomatch q) (fun _ => s_join (s_nil ?_))
    dsimp only [seqK, loopK, leave]
    exact .cut hL (k _ (Stk.leave hB h'))
  · cases ha
  · obtain ⟨e', p', h⟩ := h
    have hw : (x.getD []).length + 2 * y.length ≤ 50000 := hz
    unfold endS at ha
    dsimp only at ha
    by_cases h1 : m ∈ longL
    · rw [if_pos h1] at ha
      cases ha
      refine ⟨⟨rfl, fun L hL => Hold.out ?_⟩⟩; dsimp only [start, names, ar, List.length_cons, List.length_nil, Nat.zero_add, Nat.reduceAdd, Nat.reduceSub, Nat.sub_self, List.replicate, List.append_nil, List.cons_append, List.nil_append]
      have hB := base_none h.agree hL
      have h' := h.enter hL
      generalize upd O L .frame = O₁ at h' ⊢
      refine s_while (fun _ σ O' => σ = [.lst s] ∧ O' = O₁) 0 ⟨rfl, rfl⟩ ?_
      rintro _ σ O' ⟨rfl, rfl⟩
      refine wh_c (ev_and2 (ev_gti (ev_lenl rfl h'.hs)) (ev_ins (r := false) (ev_subl (j := 0) (ev_last (l := [.lst e]) rfl h'.hs) h'.he' rfl) ev_gl ((by decide : ∀ m ∈ longL, inStr m [117, 108] = some false) m h1))) (fun q => absurd (show false = true from q) (by decide)) (fun _ => ?_)
      refine s_if (ev_gti (ev_lenl rfl h'.hs)) (fun _ => ?_) (fun q => absurd (show true = false from q) (by decide))
      refine s_expr ?_; dsimp only [we, wes, wbo, Option.toList, g0, g1, g2, g3, g4, g5, g6, g7, g8, g9, g10, g11, List.set_cons_zero, List.set_cons_succ, onDef, mthQ, methP, asI, asB, slQ, nn, binP, cmpQ, cmpP, subP, bfP, augP, inStr, shorts, Gl.val, tn0, tn1, tn2, tnl0, tnl1, tnl2, tnl3]
      refine close_c h' (by omega) fun O' h4 => s_join (s_nil ?_)
      dsimp only [seqK, loopK, leave]
      exact .cut hL (k _ (h4.leave hB))
    · rw [if_neg h1] at ha; cases ha
theorem begin_c {c : Nat} (h : Stk B O s e p x) (k : ∀ O', Sk B O' s e p x (some ([c], none)) → K .none O') : Hold (CC (n + 1) .begin_case [.lst s, .str [c]] O K E) := by
  refine ⟨⟨rfl, fun L hL => Hold.out ?_⟩⟩; dsimp only [start, names, ar, List.length_cons, List.length_nil, Nat.zero_add, Nat.reduceAdd, Nat.reduceSub, Nat.sub_self, List.replicate, List.append_nil, List.cons_append, List.nil_append]
  have hB := base_none h.agree hL
  have h' := h.enter hL
  generalize upd O L .frame = O₁ at h' ⊢
  refine s_if (ev_and2 (ev_ins (ev_loc rfl rfl) ev_str rfl) (ev_ulf (ev_subl (j := 0) (ev_last (l := []) rfl h'.hs) h'.he rfl))) (fun q => absurd (Bool.and_eq_true_iff.mp q).2 (by decide)) (fun _ => s_join ?_)
  refine s_expr ?_; dsimp only [we, wes, wbo, Option.toList, g0, g1, g2, g3, g4, g5, g6, g7, g8, g9, g10, g11, List.set_cons_zero, List.set_cons_succ, onDef, mthQ, methP, asI, asB, slQ, nn, binP, cmpQ, cmpP, subP, bfP, augP, inStr, shorts, Gl.val, tn0, tn1, tn2, tnl0, tnl1, tnl2, tnl3]
  refine ⟨⟨_, h'.hs⟩, fun p' hp' e' he' => ?_⟩
  have h2 := h'.push (m := [c]) hp' he'
  obtain ⟨n1, he0⟩ := ne2 he'
  refine ⟨[.lst e], ?_, (by decide : 1 < SZ), s_nil ?_⟩
  · rw [upd_ne _ (by rintro rfl; have := h'.hs; rw [he0] at this; cases this), upd_ne _ (by rintro rfl; have := h'.hs; rw [hp'] at this; cases this)]
    exact h'.hs
  · dsimp only [seqK, loopK, leave]
    exact .cut hL (k _ ⟨_, _, h2.leave hB⟩)
end

end Mine
end
section
open PySem PySem.W PySem.Calls PyProof.Rows
set_option Elab.async false
set_option maxRecDepth 8000
set_option maxHeartbeats 2000000
set_option linter.all false
namespace Mine
noncomputable abbrev caseL : List Nat := [85, 76, 70, 81, 117, 108, 69]
noncomputable abbrev LU : List Nat := [92, 76, 92, 117]
noncomputable abbrev UL : List Nat := [92, 85, 92, 108]
/-- what the parts of a text come to, sign by sign -/
inductive QQ : Nat → List Nat → Option (List Nat) → Top → List Nat → Prop
  | done {x : Option (List Nat)} : QQ 0 [] x none (x.getD [])
  | lit {n c : Nat} {r : List Nat} {x x' : Option (List Nat)} {st st' : Top} {out : List Nat} : c ≠ 92 → c ≠ 36 → c ≠ 64 → addS x [c] st = some (x', st') → QQ n r x' st' out → QQ (n + 1) (c :: r) x st out
  | esc {n k : Nat} {r z : List Nat} {x x' : Option (List Nat)} {st st' : Top} {out : List Nat} : (∀ f r', r = f :: r' → f ∉ caseL) → Mine.esc r = some (z, k) → k ≤ r.length + 1 → z.length ≤ 1 → addS x z st = some (x', st') → QQ n ((92 :: r).drop k) x' st' out → QQ (n + 1) (92 :: r) x st out
  | mark {n c : Nat} {r : List Nat} {x : Option (List Nat)} {out : List Nat} : c ∈ caseL → c ≠ 69 → (92 :: c :: r).take 4 ≠ LU → (92 :: c :: r).take 4 ≠ UL → QQ n r x (some ([c], none)) out → QQ (n + 1) (92 :: c :: r) x none out
  | fin {n : Nat} {r : List Nat} {x x' : Option (List Nat)} {st st' : Top} {out : List Nat} : endS x st = some (x', st') → QQ n r x' st' out → QQ (n + 1) (92 :: 69 :: r) x st out
theorem addS_wt {x x' : Option (List Nat)} {z : List Nat} {st st' : Top} (h : addS x z st = some (x', st')) : wt x' st' ≤ wt x st + 2 * z.length := by
  rcases st with _ | ⟨m, y⟩
  · cases h
    show ((x.getD [] ++ z).length) ≤ (x.getD []).length + _
    rw [List.length_append]; omega
  · unfold addS at h
    dsimp only at h
    split at h
    · cases h
      cases y with
      | none => show (x.getD []).length + 2 * ([] ++ z).length ≤ (x.getD []).length + _; simp
      | some y => show (x.getD []).length + 2 * (y ++ z).length ≤ ((x.getD []).length + 2 * y.length) + _; rw [List.length_append]; omega
    · split at h
      · rename_i q
        obtain ⟨_, rfl⟩ := q
        cases h
        have := cas_len m z
        show ((x.getD [] ++ cas m z).length) ≤ (x.getD []).length + _
        rw [List.length_append]; omega
      · cases h
theorem endS_wt {x x' : Option (List Nat)} {st st' : Top} (h : endS x st = some (x', st')) : wt x' st' ≤ wt x st := by
  rcases st with _ | ⟨m, _ | y⟩
  · cases h; exact Nat.le_refl _
  · cases h
  · unfold endS at h
    dsimp only at h
    split at h
    · cases h
      have := cas_len m y
      show ((x.getD [] ++ cas m y).length) ≤ (x.getD []).length + 2 * y.length
      rw [List.length_append]; omega
    · cases h
theorem cut04 (t : List Nat) (a : Nat) : cutL t (some (a : Int)) (some ((a : Int) + 4)) = (t.drop a).take 4 := by
  have h := cutD t a (a + 4)
  rw [show a + 4 - a = 4 by omega] at h
  exact h
section
variable {C : CallP} {σ : List V} {O : MH}
theorem ev_cast {x : X} {a b : Bool} (h : Ev C σ O x (.bool a)) (e : a = b) : Ev C σ O x (.bool b) := e ▸ h
theorem ev_idx {i j a c : Nat} {p q r : Pos} {t : List Nat} (h : gv σ i = .str t) (h' : gv σ j = .int a) (hc : t[a]? = some c) : Ev C σ O (.sub (.loc i p) (.loc j q) r) (.str [c]) :=
  ⟨fun k => by rw [we, we, h]; show we _ _ _ _ _ _; rw [we, h']; exact ⟨Int.natCast_nonneg _, c, hc, k⟩⟩
end
section
variable {n : Nat} {O : MH} {K : V → MH → Prop} {E : Int → MH → Prop} {B : MH} {s e p : Addr} {x x' : Option (List Nat)} {st st' : Top} {t z : List Nat} {a c kk : Nat}
theorem tcm_c (h : Stk B O s e p x) (hc : t[a + 1]? = some c) (h69 : c ≠ 69) (hp1 : (t.drop a).take 4 ≠ LU) (hp2 : (t.drop a).take 4 ≠ UL) (k : ∀ O', Sk B O' s e p x (some ([c], none)) → K (.int ((a : Int) + 2)) O') : Hold (CC (n + 6) .take_case [.lst s, .str t, .int a] O K E) := by
  refine ⟨⟨rfl, fun L hL => Hold.out ?_⟩⟩; dsimp only [start, names, ar, List.length_cons, List.length_nil, Nat.zero_add, Nat.reduceAdd, Nat.reduceSub, Nat.sub_self, List.replicate, List.append_nil, List.cons_append, List.nil_append]
  have hB := base_none h.agree hL
  have h' := h.enter hL
  generalize upd O L .frame = O₁ at h' ⊢
  refine s_assign ?_; dsimp only [we, wes, wbo, Option.toList, g0, g1, g2, g3, g4, g5, g6, g7, g8, g9, g10, g11, List.set_cons_zero, List.set_cons_succ, onDef, mthQ, methP, asI, asB, slQ, nn, binP, cmpQ, cmpP, subP, bfP, augP, inStr, shorts, Gl.val, tn0, tn1, tn2, tnl0, tnl1, tnl2, tnl3]
  refine ⟨by omega, c, hc, ?_⟩
  refine s_assign ?_; dsimp only [we, wes, wbo, Option.toList, g0, g1, g2, g3, g4, g5, g6, g7, g8, g9, g10, g11, List.set_cons_zero, List.set_cons_succ, onDef, mthQ, methP, asI, asB, slQ, nn, binP, cmpQ, cmpP, subP, bfP, augP, inStr, shorts, Gl.val, tn0, tn1, tn2, tnl0, tnl1, tnl2, tnl3]
  rw [cut04]
  refine ⟨by omega, by omega, ?_⟩
  refine s_if (ev_or2 (ev_eqs rfl) (ev_eqs rfl)) (fun q => ?_) (fun _ => s_join ?_)
  · rw [Bool.or_eq_true, beq_iff_eq, beq_iff_eq] at q
    exact absurd q (by rintro (q | q); exact hp1 q; exact hp2 q)
  · refine s_if (ev_eqs rfl) (fun q => absurd (by simpa using q) h69) (fun _ => ?_)
    refine s_expr ?_; dsimp only [we, wes, wbo, Option.toList, g0, g1, g2, g3, g4, g5, g6, g7, g8, g9, g10, g11, List.set_cons_zero, List.set_cons_succ, onDef, mthQ, methP, asI, asB, slQ, nn, binP, cmpQ, cmpP, subP, bfP, augP, inStr, shorts, Gl.val, tn0, tn1, tn2, tnl0, tnl1, tnl2, tnl3]
    refine begin_c h' fun O' h2 => s_join ?_
    refine s_ret ?_; dsimp only [we, wes, wbo, Option.toList, g0, g1, g2, g3, g4, g5, g6, g7, g8, g9, g10, g11, List.set_cons_zero, List.set_cons_succ, onDef, mthQ, methP, asI, asB, slQ, nn, binP, cmpQ, cmpP, subP, bfP, augP, inStr, shorts, Gl.val, tn0, tn1, tn2, tnl0, tnl1, tnl2, tnl3]
    dsimp only [seqK, loopK, leave]
    exact .cut hL (k _ (h2.leave hB))
theorem tce_c (h : Sk B O s e p x st) (hc : t[a + 1]? = some 69) (he : endS x st = some (x', st')) (hz : wt x st ≤ 50000) (hp1 : (t.drop a).take 4 ≠ LU) (hp2 : (t.drop a).take 4 ≠ UL) (k : ∀ O', Sk B O' s e p x' st' → K (.int ((a : Int) + 2)) O') : Hold (CC (n + 6) .take_case [.lst s, .str t, .int a] O K E) := by
  refine ⟨⟨rfl, fun L hL => Hold.out ?_⟩⟩; dsimp only [start, names, ar, List.length_cons, List.length_nil, Nat.zero_add, Nat.reduceAdd, Nat.reduceSub, Nat.sub_self, List.replicate, List.append_nil, List.cons_append, List.nil_append]
  have hB := base_none h.agree hL
  have h' := h.enter hL
  generalize upd O L .frame = O₁ at h' ⊢
  refine s_assign ?_; dsimp only [we, wes, wbo, Option.toList, g0, g1, g2, g3, g4, g5, g6, g7, g8, g9, g10, g11, List.set_cons_zero, List.set_cons_succ, onDef, mthQ, methP, asI, asB, slQ, nn, binP, cmpQ, cmpP, subP, bfP, augP, inStr, shorts, Gl.val, tn0, tn1, tn2, tnl0, tnl1, tnl2, tnl3]
  refine ⟨by omega, 69, hc, ?_⟩
  refine s_assign ?_; dsimp only [we, wes, wbo, Option.toList, g0, g1, g2, g3, g4, g5, g6, g7, g8, g9, g10, g11, List.set_cons_zero, List.set_cons_succ, onDef, mthQ, methP, asI, asB, slQ, nn, binP, cmpQ, cmpP, subP, bfP, augP, inStr, shorts, Gl.val, tn0, tn1, tn2, tnl0, tnl1, tnl2, tnl3]
  rw [cut04]
  refine ⟨by omega, by omega, ?_⟩
  refine s_if (ev_or2 (ev_eqs rfl) (ev_eqs rfl)) (fun q => ?_) (fun _ => s_join ?_)
  · rw [Bool.or_eq_true, beq_iff_eq, beq_iff_eq] at q
    exact absurd q (by rintro (q | q); exact hp1 q; exact hp2 q)
  · refine s_if (ev_eqs rfl) (fun _ => ?_) (fun q => nomatch q)
    refine s_expr ?_; dsimp only [we, wes, wbo, Option.toList, g0, g1, g2, g3, g4, g5, g6, g7, g8, g9, g10, g11, List.set_cons_zero, List.set_cons_succ, onDef, mthQ, methP, asI, asB, slQ, nn, binP, cmpQ, cmpP, subP, bfP, augP, inStr, shorts, Gl.val, tn0, tn1, tn2, tnl0, tnl1, tnl2, tnl3]
    refine end_c h' he hz fun O' h2 => s_join ?_
    refine s_ret ?_; dsimp only [we, wes, wbo, Option.toList, g0, g1, g2, g3, g4, g5, g6, g7, g8, g9, g10, g11, List.set_cons_zero, List.set_cons_succ, onDef, mthQ, methP, asI, asB, slQ, nn, binP, cmpQ, cmpP, subP, bfP, augP, inStr, shorts, Gl.val, tn0, tn1, tn2, tnl0, tnl1, tnl2, tnl3]
    dsimp only [seqK, loopK, leave]
    exact .cut hL (k _ (h2.leave hB))
theorem tpe_c (h : Sk B O s e p x st) (hc : t[a]? = some 92) (he : esc (t.drop (a + 1)) = some (z, kk)) (ha : addS x z st = some (x', st')) (hz : wt x st + 2 * z.length ≤ 50000) (k : ∀ O', Sk B O' s e p x' st' → K (.int ((a + kk : Nat) : Int)) O') : Hold (CC (n + 6) .take_piece [.lst s, .str t, .int a, .bool false] O K E) := by
  refine ⟨⟨rfl, fun L hL => Hold.out ?_⟩⟩; dsimp only [start, names, ar, List.length_cons, List.length_nil, Nat.zero_add, Nat.reduceAdd, Nat.reduceSub, Nat.sub_self, List.replicate, List.append_nil, List.cons_append, List.nil_append]
  have hB := base_none h.agree hL
  have h' := h.enter hL
  generalize upd O L .frame = O₁ at h' ⊢
  refine s_assign ?_; dsimp only [we, wes, wbo, Option.toList, g0, g1, g2, g3, g4, g5, g6, g7, g8, g9, g10, g11, List.set_cons_zero, List.set_cons_succ, onDef, mthQ, methP, asI, asB, slQ, nn, binP, cmpQ, cmpP, subP, bfP, augP, inStr, shorts, Gl.val, tn0, tn1, tn2, tnl0, tnl1, tnl2, tnl3]
  refine ⟨Int.natCast_nonneg _, 92, hc, ?_⟩
  refine s_if (ev_eqs rfl) (fun _ => ?_) (fun q => nomatch q)
  refine s_if (ev_loc rfl rfl) (fun q => nomatch q) (fun _ => s_join ?_)
  refine s_unpack ?_; dsimp only [we, wes, wbo, Option.toList, g0, g1, g2, g3, g4, g5, g6, g7, g8, g9, g10, g11, List.set_cons_zero, List.set_cons_succ, onDef, mthQ, methP, asI, asB, slQ, nn, binP, cmpQ, cmpP, subP, bfP, augP, inStr, shorts, Gl.val, tn0, tn1, tn2, tnl0, tnl1, tnl2, tnl3]
  refine esc_c (List.getElem?_eq_some_iff.mp hc).1 he ?_
  refine s_expr ?_; dsimp only [we, wes, wbo, Option.toList, g0, g1, g2, g3, g4, g5, g6, g7, g8, g9, g10, g11, List.set_cons_zero, List.set_cons_succ, onDef, mthQ, methP, asI, asB, slQ, nn, binP, cmpQ, cmpP, subP, bfP, augP, inStr, shorts, Gl.val, tn0, tn1, tn2, tnl0, tnl1, tnl2, tnl3]
  refine add_c h' ha hz fun O' h2 => ?_
  refine s_ret ?_; dsimp only [we, wes, wbo, Option.toList, g0, g1, g2, g3, g4, g5, g6, g7, g8, g9, g10, g11, List.set_cons_zero, List.set_cons_succ, onDef, mthQ, methP, asI, asB, slQ, nn, binP, cmpQ, cmpP, subP, bfP, augP, inStr, shorts, Gl.val, tn0, tn1, tn2, tnl0, tnl1, tnl2, tnl3]
  dsimp only [seqK, loopK, leave]
  exact .cut hL (k _ (h2.leave hB))
theorem tpl_c (h : Sk B O s e p x st) (hc : t[a]? = some c) (h1 : c ≠ 92) (h2 : c ≠ 36) (h3 : c ≠ 64) (ha : addS x [c] st = some (x', st')) (hz : wt x st + 2 ≤ 50000) (k : ∀ O', Sk B O' s e p x' st' → K (.int ((a : Int) + 1)) O') : Hold (CC (n + 6) .take_piece [.lst s, .str t, .int a, .bool false] O K E) := by
  refine ⟨⟨rfl, fun L hL => Hold.out ?_⟩⟩; dsimp only [start, names, ar, List.length_cons, List.length_nil, Nat.zero_add, Nat.reduceAdd, Nat.reduceSub, Nat.sub_self, List.replicate, List.append_nil, List.cons_append, List.nil_append]
  have hB := base_none h.agree hL
  have h' := h.enter hL
  generalize upd O L .frame = O₁ at h' ⊢
  refine s_assign ?_; dsimp only [we, wes, wbo, Option.toList, g0, g1, g2, g3, g4, g5, g6, g7, g8, g9, g10, g11, List.set_cons_zero, List.set_cons_succ, onDef, mthQ, methP, asI, asB, slQ, nn, binP, cmpQ, cmpP, subP, bfP, augP, inStr, shorts, Gl.val, tn0, tn1, tn2, tnl0, tnl1, tnl2, tnl3]
  refine ⟨Int.natCast_nonneg _, c, hc, ?_⟩
  refine s_if (ev_eqs rfl) (fun q => absurd (by simpa using q) h1) (fun _ => s_join ?_)
  refine s_assign ?_; dsimp only [we, wes, wbo, Option.toList, g0, g1, g2, g3, g4, g5, g6, g7, g8, g9, g10, g11, List.set_cons_zero, List.set_cons_succ, onDef, mthQ, methP, asI, asB, slQ, nn, binP, cmpQ, cmpP, subP, bfP, augP, inStr, shorts, Gl.val, tn0, tn1, tn2, tnl0, tnl1, tnl2, tnl3]
  refine s_if (ev_eqs rfl) (fun q => absurd (by simpa using q) h2) (fun _ => ?_)
  refine s_if (ev_eqs rfl) (fun q => absurd (by simpa using q) h3) (fun _ => s_join (s_join ?_))
  refine s_ifs ?_; dsimp only [we, wes, wbo, Option.toList, g0, g1, g2, g3, g4, g5, g6, g7, g8, g9, g10, g11, List.set_cons_zero, List.set_cons_succ, onDef, mthQ, methP, asI, asB, slQ, nn, binP, cmpQ, cmpP, subP, bfP, augP, inStr, shorts, Gl.val, tn0, tn1, tn2, tnl0, tnl1, tnl2, tnl3]
  refine i_f (decide_eq_false (Int.lt_irrefl _)) (s_join ?_)
  refine s_expr ?_; dsimp only [we, wes, wbo, Option.toList, g0, g1, g2, g3, g4, g5, g6, g7, g8, g9, g10, g11, List.set_cons_zero, List.set_cons_succ, onDef, mthQ, methP, asI, asB, slQ, nn, binP, cmpQ, cmpP, subP, bfP, augP, inStr, shorts, Gl.val, tn0, tn1, tn2, tnl0, tnl1, tnl2, tnl3]
  refine add_c h' ha hz fun O' h2 => ?_
  refine s_ret ?_; dsimp only [we, wes, wbo, Option.toList, g0, g1, g2, g3, g4, g5, g6, g7, g8, g9, g10, g11, List.set_cons_zero, List.set_cons_succ, onDef, mthQ, methP, asI, asB, slQ, nn, binP, cmpQ, cmpP, subP, bfP, augP, inStr, shorts, Gl.val, tn0, tn1, tn2, tnl0, tnl1, tnl2, tnl3]
  dsimp only [seqK, loopK, leave]
  exact .cut hL (k _ (h2.leave hB))
theorem parts_c {N : Nat} {out : List Nat} (hq : QQ N t none none out) (hN : N ≤ 10000) (k : ∀ x, x.getD [] = out → K (.fl (pv x)) O) : Hold (CC (n + 7) .parts_of [.str t, .bool false] O K E) := by
  refine ⟨⟨rfl, fun L hL => Hold.out ?_⟩⟩; dsimp only [start, names, ar, List.length_cons, List.length_nil, Nat.zero_add, Nat.reduceAdd, Nat.reduceSub, Nat.sub_self, List.replicate, List.append_nil, List.cons_append, List.nil_append]
  refine s_assign ?_; dsimp only [we, wes, wbo, Option.toList, g0, g1, g2, g3, g4, g5, g6, g7, g8, g9, g10, g11, List.set_cons_zero, List.set_cons_succ, onDef, mthQ, methP, asI, asB, slQ, nn, binP, cmpQ, cmpP, subP, bfP, augP, inStr, shorts, Gl.val, tn0, tn1, tn2, tnl0, tnl1, tnl2, tnl3]
  intro p hp e he s hs
  have stk : Stk (upd O L .frame) (upd (upd (upd (upd O L .frame) p (.list [])) e (.list [.str [], .lst p])) s (.list [.lst e])) s e p none := by
    obtain ⟨n1, he0⟩ := ne2 he
    obtain ⟨n2, hs1⟩ := ne2 hs
    obtain ⟨n3, hs0⟩ := ne2 hs1
    exact ⟨agree_upd (agree_upd (agree_upd (fun _ _ => rfl) hp) he0) hs0, hs0, he0, hp, upd_self .., by rw [upd_ne _ n2.symm, upd_self], by rw [upd_ne _ n3.symm, upd_ne _ n1.symm, upd_self]; rfl⟩
  generalize upd (upd (upd (upd O L .frame) p (.list [])) e (.list [.str [], .lst p])) s (.list [.lst e]) = O₁ at stk ⊢
  refine s_assign ?_; dsimp only [we, wes, wbo, Option.toList, g0, g1, g2, g3, g4, g5, g6, g7, g8, g9, g10, g11, List.set_cons_zero, List.set_cons_succ, onDef, mthQ, methP, asI, asB, slQ, nn, binP, cmpQ, cmpP, subP, bfP, augP, inStr, shorts, Gl.val, tn0, tn1, tn2, tnl0, tnl1, tnl2, tnl3]
  refine s_while (fun q σ O' => ∃ (a : Nat) (x : Option (List Nat)) (st : Top) (fo : V), σ = [.str t, .bool false, .lst s, .int a, fo] ∧ Sk (upd O L .frame) O' s e p x st ∧ QQ q (t.drop a) x st out ∧ wt x st + 2 * q ≤ 40000) N ⟨0, none, none, .undef, rfl, stk, hq, by show 0 + 2 * N ≤ 40000; omega⟩ ?_
  rintro q σ O' ⟨a, x, st, fo, rfl, hk, hq, hw⟩
  dsimp only [we, wes, wbo, Option.toList, g0, g1, g2, g3, g4, g5, g6, g7, g8, g9, g10, g11, List.set_cons_zero, List.set_cons_succ, onDef, mthQ, methP, asI, asB, slQ, nn, binP, cmpQ, cmpP, subP, bfP, augP, inStr, shorts, Gl.val, tn0, tn1, tn2, tnl0, tnl1, tnl2, tnl3]
  refine i_s (fun hl => ?_) (fun hl => ?_)
  · have hl : a < t.length := by simpa using hl
    have hx : t[a]? = some t[a] := List.getElem?_eq_getElem hl
    have hdrop : t.drop a = t[a] :: t.drop (a + 1) := List.drop_eq_getElem_cons hl
    generalize t[a] = c at hx hdrop
    have hfo : t[a + 1]? = (t.drop (a + 1))[0]? := by rw [List.getElem?_drop]
    have hd2 : ∀ j, t.drop (a + j) = (t.drop a).drop j := fun j => by rw [List.drop_drop]
    have again : ∀ (q' a' : Nat) (x' : Option (List Nat)) (st' : Top) (fo : V) (O' : MH), q' < q → Sk (upd O L .frame) O' s e p x' st' → QQ q' (t.drop a') x' st' out → wt x' st' + 2 * q' ≤ 40000 → ∃ m, m < q ∧ ∃ (a : Nat) (x : Option (List Nat)) (st : Top) (fo' : V), ([.str t, .bool false, .lst s, .int (a' : Int), fo] : List V) = [.str t, .bool false, .lst s, .int a, fo'] ∧ Sk (upd O L .frame) O' s e p x st ∧ QQ m (t.drop a) x st out ∧ wt x st + 2 * m ≤ 40000 :=
      fun q' a' x' st' fo O' h1 h2 h3 h4 => ⟨q', h1, a', x', st', fo, rfl, h2, h3, h4⟩
    rw [hdrop] at hq hd2
    obtain ⟨r, hr⟩ : ∃ r, r = t.drop (a + 1) := ⟨_, rfl⟩
    rw [← hr] at hq hfo hdrop hd2
    refine s_assign ?_; dsimp only [we, wes, wbo, Option.toList, g0, g1, g2, g3, g4, g5, g6, g7, g8, g9, g10, g11, List.set_cons_zero, List.set_cons_succ, onDef, mthQ, methP, asI, asB, slQ, nn, binP, cmpQ, cmpP, subP, bfP, augP, inStr, shorts, Gl.val, tn0, tn1, tn2, tnl0, tnl1, tnl2, tnl3]
    rw [cut12]
    refine ⟨by omega, by omega, ?_⟩
    cases hq with
    | lit h1 h2 h3 ha hq =>
      have hwt := addS_wt ha
      have e1 : ([c] == [92]) = false := by simpa using h1
      refine s_if (ev_andF (ev_cast (ev_eqx (ev_idx rfl rfl hx)) e1)) (fun q => nomatch q) (fun _ => ?_)
      refine s_assign ?_; dsimp only [we, wes, wbo, Option.toList, g0, g1, g2, g3, g4, g5, g6, g7, g8, g9, g10, g11, List.set_cons_zero, List.set_cons_succ, onDef, mthQ, methP, asI, asB, slQ, nn, binP, cmpQ, cmpP, subP, bfP, augP, inStr, shorts, Gl.val, tn0, tn1, tn2, tnl0, tnl1, tnl2, tnl3]
      refine tpl_c hk hx h1 h2 h3 ha (by omega) fun O' h' => s_join (s_nil ?_)
      dsimp only [seqK, loopK, leave]
      exact again _ (a + 1) _ _ _ _ (Nat.lt_succ_self _) h' (hr ▸ hq) (by simp only [List.length_cons, List.length_nil] at hwt; omega)
    | esc hf he hkl hzl ha hq =>
      have hwt := addS_wt ha
      have hb : ∃ b, inStr (t[a + 1]?).toList caseL = some b ∧ (((t[a + 1]?).toList != []) && b) = false := by
        rw [hfo]
        cases r with
        | nil => exact ⟨true, rfl, rfl⟩
        | cons f r' => exact ⟨decide (f ∈ caseL), rfl, by rw [decide_eq_false (hf f r' rfl), Bool.and_false]⟩
      obtain ⟨b, hb1, hb2⟩ := hb
      refine s_if (ev_and3 (ev_eqx (ev_idx rfl rfl hx)) (ev_nes rfl) (ev_ins (ev_loc rfl rfl) ev_str hb1)) (fun q => absurd q (by rw [hb2]; decide)) (fun _ => ?_)
      refine s_assign ?_; dsimp only [we, wes, wbo, Option.toList, g0, g1, g2, g3, g4, g5, g6, g7, g8, g9, g10, g11, List.set_cons_zero, List.set_cons_succ, onDef, mthQ, methP, asI, asB, slQ, nn, binP, cmpQ, cmpP, subP, bfP, augP, inStr, shorts, Gl.val, tn0, tn1, tn2, tnl0, tnl1, tnl2, tnl3]
      refine tpe_c hk hx (hr ▸ he) ha (by omega) fun O' h' => s_join (s_nil ?_)
      dsimp only [seqK, loopK, leave]
      exact again _ _ _ _ _ _ (Nat.lt_succ_self _) h' (by rw [hd2]; exact hq) (by omega)
    | mark h1 h69 hp1 hp2 hq =>
      rw [← hdrop] at hp1 hp2
      have hb : ∃ b, inStr (t[a + 1]?).toList caseL = some b ∧ (((t[a + 1]?).toList != []) && b) = true := by
        rw [hfo]
        exact ⟨_, rfl, by rw [decide_eq_true h1]; rfl⟩
      obtain ⟨b, hb1, hb2⟩ := hb
      refine s_if (ev_and3 (ev_eqx (ev_idx rfl rfl hx)) (ev_nes rfl) (ev_ins (ev_loc rfl rfl) ev_str hb1)) (fun _ => ?_) (fun q => absurd q (by rw [hb2]; decide))
      refine s_assign ?_; dsimp only [we, wes, wbo, Option.toList, g0, g1, g2, g3, g4, g5, g6, g7, g8, g9, g10, g11, List.set_cons_zero, List.set_cons_succ, onDef, mthQ, methP, asI, asB, slQ, nn, binP, cmpQ, cmpP, subP, bfP, augP, inStr, shorts, Gl.val, tn0, tn1, tn2, tnl0, tnl1, tnl2, tnl3]
      refine tcm_c hk hfo h69 hp1 hp2 fun O' h' => s_join (s_nil ?_)
      dsimp only [seqK, loopK, leave]
      exact again _ (a + 2) _ _ _ _ (Nat.lt_succ_self _) h' (by rw [hd2]; exact hq) (Nat.le_trans (Nat.add_le_add_left (Nat.mul_le_mul_left 2 (Nat.le_succ _)) _) hw)
    | fin he hq =>
      have hwt := endS_wt he
      refine s_if (ev_and3 (b := true) (c := true) (ev_eqx (ev_idx rfl rfl hx)) (ev_cast (ev_nes rfl) (by rw [hfo]; rfl)) (ev_ins (ev_loc rfl rfl) ev_str (by rw [hfo]; rfl))) (fun _ => ?_) (fun q => nomatch q)
      refine s_assign ?_; dsimp only [we, wes, wbo, Option.toList, g0, g1, g2, g3, g4, g5, g6, g7, g8, g9, g10, g11, List.set_cons_zero, List.set_cons_succ, onDef, mthQ, methP, asI, asB, slQ, nn, binP, cmpQ, cmpP, subP, bfP, augP, inStr, shorts, Gl.val, tn0, tn1, tn2, tnl0, tnl1, tnl2, tnl3]
      refine tce_c hk hfo he (by omega) (by rw [hdrop]; simp) (by rw [hdrop]; simp) fun O' h' => s_join (s_nil ?_)
      dsimp only [seqK, loopK, leave]
      exact again _ (a + 2) _ _ _ _ (Nat.lt_succ_self _) h' (by rw [hd2]; exact hq) (by omega)
  · have hl : t.length ≤ a := by simpa using hl
    rw [List.drop_eq_nil_of_le hl] at hq
    cases hq
    have h' : Stk (upd O L .frame) O' s e p x := hk
    refine s_while (fun _ σ O₂ => σ = [.str t, .bool false, .lst s, .int a, fo] ∧ O₂ = O') 0 ⟨rfl, rfl⟩ ?_
    rintro _ σ O₂ ⟨rfl, rfl⟩
    refine wh_c (ev_gti (ev_lenl rfl h'.hs)) (fun q => nomatch q) (fun _ => ?_)
    refine s_ret ((ev_subl (j := 1) (ev_subl (j := 0) (ev_loc rfl rfl) h'.hs rfl) h'.he rfl).go ?_)
    dsimp only [seqK, loopK, leave]
    have ag : ∀ b, O b ≠ none → O b = O₂ b := fun b hb => by
      have hbL : b ≠ L := by rintro rfl; exact hb hL
      have := h'.agree b (by rw [upd_ne _ hbL]; exact hb)
      rw [this, upd_ne _ hbL]
    refine ⟨O, fun b => ?_, hL, ag, .inr ⟨p, _, rfl, h'.hp, (ne2 hp).2, k x rfl⟩⟩
    by_cases q : O b = none
    · exact .inl q
    · exact .inr (ag b q)
theorem plain_c {N : Nat} {out : List Nat} (hq : QQ N t none none out) (hN : N ≤ 10000) (hz : out.length ≤ 100000) (k : K (.str out) O) : Hold (CC (n + 8) .plain_qq [.str t] O K E) := by
  refine ⟨⟨rfl, fun L hL => Hold.out ?_⟩⟩; dsimp only [start, names, ar, List.length_cons, List.length_nil, Nat.zero_add, Nat.reduceAdd, Nat.reduceSub, Nat.sub_self, List.replicate, List.append_nil, List.cons_append, List.nil_append]
  refine s_assign ?_; dsimp only [we, wes, wbo, Option.toList, g0, g1, g2, g3, g4, g5, g6, g7, g8, g9, g10, g11, List.set_cons_zero, List.set_cons_succ, onDef, mthQ, methP, asI, asB, slQ, nn, binP, cmpQ, cmpP, subP, bfP, augP, inStr, shorts, Gl.val, tn0, tn1, tn2, tnl0, tnl1, tnl2, tnl3]
  refine s_for ?_
  dsimp only [we, wes, wbo, Option.toList, g0, g1, g2, g3, g4, g5, g6, g7, g8, g9, g10, g11, List.set_cons_zero, List.set_cons_succ, onDef, mthQ, methP, asI, asB, slQ, nn, binP, cmpQ, cmpP, subP, bfP, augP, inStr, shorts, Gl.val, tn0, tn1, tn2, tnl0, tnl1, tnl2, tnl3]
  refine parts_c hq hN fun x hx => ?_
  cases x with
  | none =>
    subst hx
    refine ⟨[], rfl, fun l σ O' => l = [] ∧ σ = [.str t, .str [], .undef] ∧ O' = upd O L .frame, ⟨rfl, rfl, rfl⟩, ?_, ?_⟩
    · rintro v l σ O' ⟨h, _, _⟩; cases h
    · rintro σ O' ⟨_, rfl, rfl⟩
      refine s_ret ?_; dsimp only [we, wes, wbo, Option.toList, g0, g1, g2, g3, g4, g5, g6, g7, g8, g9, g10, g11, List.set_cons_zero, List.set_cons_succ, onDef, mthQ, methP, asI, asB, slQ, nn, binP, cmpQ, cmpP, subP, bfP, augP, inStr, shorts, Gl.val, tn0, tn1, tn2, tnl0, tnl1, tnl2, tnl3]
      exact .pure hL k
  | some y =>
    subst hx
    refine ⟨_, rfl, fun l σ O' => ((l = pv (some y) ∧ σ = [.str t, .str [], .undef]) ∨ (l = [] ∧ ∃ v, σ = [.str t, .str y, v])) ∧ O' = upd O L .frame, ⟨.inl ⟨rfl, rfl⟩, rfl⟩, ?_, ?_⟩
    · rintro v l σ O' ⟨⟨h, rfl⟩ | ⟨h, _⟩, rfl⟩
      · obtain ⟨rfl, rfl⟩ := List.cons.inj h
        refine s_if (ev_nex (ev_subt (j := 0) (ev_loc rfl rfl) rfl)) (fun q => nomatch q) (fun _ => s_join ?_)
        refine s_aug ?_; dsimp only [we, wes, wbo, Option.toList, g0, g1, g2, g3, g4, g5, g6, g7, g8, g9, g10, g11, List.set_cons_zero, List.set_cons_succ, onDef, mthQ, methP, asI, asB, slQ, nn, binP, cmpQ, cmpP, subP, bfP, augP, inStr, shorts, Gl.val, tn0, tn1, tn2, tnl0, tnl1, tnl2, tnl3]
        refine ⟨by decide, _, rfl, ?_⟩
        dsimp only [we, wes, wbo, Option.toList, g0, g1, g2, g3, g4, g5, g6, g7, g8, g9, g10, g11, List.set_cons_zero, List.set_cons_succ, onDef, mthQ, methP, asI, asB, slQ, nn, binP, cmpQ, cmpP, subP, bfP, augP, inStr, shorts, Gl.val, tn0, tn1, tn2, tnl0, tnl1, tnl2, tnl3]
        refine ⟨szle (by simp only [List.length_nil]; exact Nat.le_trans (by simpa using hz) (by decide)), s_nil ?_⟩
        dsimp only [seqK, loopK, leave]
        exact ⟨.inr ⟨rfl, _, rfl⟩, rfl⟩
      · cases h
    · rintro σ O' ⟨⟨h, rfl⟩ | ⟨h, v, rfl⟩, rfl⟩
      · cases h
      · refine s_ret ?_; dsimp only [we, wes, wbo, Option.toList, g0, g1, g2, g3, g4, g5, g6, g7, g8, g9, g10, g11, List.set_cons_zero, List.set_cons_succ, onDef, mthQ, methP, asI, asB, slQ, nn, binP, cmpQ, cmpP, subP, bfP, augP, inStr, shorts, Gl.val, tn0, tn1, tn2, tnl0, tnl1, tnl2, tnl3]
        exact .pure hL k
end

end Mine
end
section
open PySem PySem.W PySem.Calls PyProof.Rows
set_option Elab.async false
set_option maxRecDepth 8000
set_option maxHeartbeats 2000000
set_option linter.all false
namespace Mine
noncomputable abbrev escL : List (List Nat × List Nat) := [([92, 110], [10]), ([92, 116], [9]), ([92, 92], [92]), ([92, 120, 52, 49], [65]), ([92, 120, 123, 50, 54, 51, 97, 125], [9786]), ([92, 49, 48, 49], [65]), ([92, 48], [0]), ([92, 120], [0]), ([92, 120, 123, 125], [0]), ([92, 111, 123, 54, 48, 125], [48]), ([92, 99, 65], [1]), ([92, 99, 97], [1]), ([92, 99, 91], [27]), ([92, 101], [27]), ([92, 113], [113]), ([92, 36], [36]), ([92, 64], [64]), ([92, 78, 123, 85, 43, 101, 57, 125], [233]), ([92, 120, 52], [4]), ([92, 55], [7]), ([92, 97], [7]), ([92, 114], [13]), ([92, 102], [12]), ([92, 98], [8]), ([92, 45], [45]), ([92, 51, 55, 55], [255])]
structure EscOk (raw sg : List Nat) : Prop where
  go : ∃ f r1 d, raw = 92 :: f :: r1 ∧ sg = [d] ∧ f ∉ caseL ∧ r1.length ≤ 7 ∧ ∀ rest, esc (f :: (r1 ++ 43 :: rest)) = some ([d], r1.length + 2)
theorem esc0 (rest : List Nat) : esc (110 :: ([] ++ 43 :: rest)) = some ([10], 2) := by kernel_rfl
theorem esc1 (rest : List Nat) : esc (116 :: ([] ++ 43 :: rest)) = some ([9], 2) := by kernel_rfl
theorem esc2 (rest : List Nat) : esc (92 :: ([] ++ 43 :: rest)) = some ([92], 2) := by kernel_rfl
theorem esc3 (rest : List Nat) : esc (120 :: ([52, 49] ++ 43 :: rest)) = some ([65], 4) := by kernel_rfl
theorem esc4 (rest : List Nat) : esc (120 :: ([123, 50, 54, 51, 97, 125] ++ 43 :: rest)) = some ([9786], 8) := by kernel_rfl
theorem esc5 (rest : List Nat) : esc (49 :: ([48, 49] ++ 43 :: rest)) = some ([65], 4) := by kernel_rfl
theorem esc6 (rest : List Nat) : esc (48 :: ([] ++ 43 :: rest)) = some ([0], 2) := by kernel_rfl
theorem esc7 (rest : List Nat) : esc (120 :: ([] ++ 43 :: rest)) = some ([0], 2) := by kernel_rfl
theorem esc8 (rest : List Nat) : esc (120 :: ([123, 125] ++ 43 :: rest)) = some ([0], 4) := by kernel_rfl
theorem esc9 (rest : List Nat) : esc (111 :: ([123, 54, 48, 125] ++ 43 :: rest)) = some ([48], 6) := by kernel_rfl
theorem esc10 (rest : List Nat) : esc (99 :: ([65] ++ 43 :: rest)) = some ([1], 3) := by kernel_rfl
theorem esc11 (rest : List Nat) : esc (99 :: ([97] ++ 43 :: rest)) = some ([1], 3) := by kernel_rfl
theorem esc12 (rest : List Nat) : esc (99 :: ([91] ++ 43 :: rest)) = some ([27], 3) := by kernel_rfl
theorem esc13 (rest : List Nat) : esc (101 :: ([] ++ 43 :: rest)) = some ([27], 2) := by kernel_rfl
theorem esc14 (rest : List Nat) : esc (113 :: ([] ++ 43 :: rest)) = some ([113], 2) := by kernel_rfl
theorem esc15 (rest : List Nat) : esc (36 :: ([] ++ 43 :: rest)) = some ([36], 2) := by kernel_rfl
theorem esc16 (rest : List Nat) : esc (64 :: ([] ++ 43 :: rest)) = some ([64], 2) := by kernel_rfl
theorem esc17 (rest : List Nat) : esc (78 :: ([123, 85, 43, 101, 57, 125] ++ 43 :: rest)) = some ([233], 8) := by kernel_rfl
theorem esc18 (rest : List Nat) : esc (120 :: ([52] ++ 43 :: rest)) = some ([4], 3) := by kernel_rfl
theorem esc19 (rest : List Nat) : esc (55 :: ([] ++ 43 :: rest)) = some ([7], 2) := by kernel_rfl
theorem esc20 (rest : List Nat) : esc (97 :: ([] ++ 43 :: rest)) = some ([7], 2) := by kernel_rfl
theorem esc21 (rest : List Nat) : esc (114 :: ([] ++ 43 :: rest)) = some ([13], 2) := by kernel_rfl
theorem esc22 (rest : List Nat) : esc (102 :: ([] ++ 43 :: rest)) = some ([12], 2) := by kernel_rfl
theorem esc23 (rest : List Nat) : esc (98 :: ([] ++ 43 :: rest)) = some ([8], 2) := by kernel_rfl
theorem esc24 (rest : List Nat) : esc (45 :: ([] ++ 43 :: rest)) = some ([45], 2) := by kernel_rfl
theorem esc25 (rest : List Nat) : esc (51 :: ([55, 55] ++ 43 :: rest)) = some ([255], 4) := by kernel_rfl
theorem escs : ∀ e ∈ escL, EscOk e.1 e.2 := by
  intro e he
  simp only [escL, List.mem_cons, List.not_mem_nil, or_false] at he
  rcases he with rfl | rfl | rfl | rfl | rfl | rfl | rfl | rfl | rfl | rfl | rfl | rfl | rfl | rfl | rfl | rfl | rfl | rfl | rfl | rfl | rfl | rfl | rfl | rfl | rfl | rfl
  · exact ⟨_, _, _, rfl, rfl, by decide, by decide, esc0⟩
  · exact ⟨_, _, _, rfl, rfl, by decide, by decide, esc1⟩
  · exact ⟨_, _, _, rfl, rfl, by decide, by decide, esc2⟩
  · exact ⟨_, _, _, rfl, rfl, by decide, by decide, esc3⟩
  · exact ⟨_, _, _, rfl, rfl, by decide, by decide, esc4⟩
  · exact ⟨_, _, _, rfl, rfl, by decide, by decide, esc5⟩
  · exact ⟨_, _, _, rfl, rfl, by decide, by decide, esc6⟩
  · exact ⟨_, _, _, rfl, rfl, by decide, by decide, esc7⟩
  · exact ⟨_, _, _, rfl, rfl, by decide, by decide, esc8⟩
  · exact ⟨_, _, _, rfl, rfl, by decide, by decide, esc9⟩
  · exact ⟨_, _, _, rfl, rfl, by decide, by decide, esc10⟩
  · exact ⟨_, _, _, rfl, rfl, by decide, by decide, esc11⟩
  · exact ⟨_, _, _, rfl, rfl, by decide, by decide, esc12⟩
  · exact ⟨_, _, _, rfl, rfl, by decide, by decide, esc13⟩
  · exact ⟨_, _, _, rfl, rfl, by decide, by decide, esc14⟩
  · exact ⟨_, _, _, rfl, rfl, by decide, by decide, esc15⟩
  · exact ⟨_, _, _, rfl, rfl, by decide, by decide, esc16⟩
  · exact ⟨_, _, _, rfl, rfl, by decide, by decide, esc17⟩
  · exact ⟨_, _, _, rfl, rfl, by decide, by decide, esc18⟩
  · exact ⟨_, _, _, rfl, rfl, by decide, by decide, esc19⟩
  · exact ⟨_, _, _, rfl, rfl, by decide, by decide, esc20⟩
  · exact ⟨_, _, _, rfl, rfl, by decide, by decide, esc21⟩
  · exact ⟨_, _, _, rfl, rfl, by decide, by decide, esc22⟩
  · exact ⟨_, _, _, rfl, rfl, by decide, by decide, esc23⟩
  · exact ⟨_, _, _, rfl, rfl, by decide, by decide, esc24⟩
  · exact ⟨_, _, _, rfl, rfl, by decide, by decide, esc25⟩

end Mine
end
section
open PySem PySem.W PySem.Calls PyProof.Rows
set_option Elab.async false
set_option maxRecDepth 8000
set_option maxHeartbeats 2000000
set_option linter.all false
namespace Mine
noncomputable abbrev PLUS : List Nat := [43, 90, 121, 37, 120]
/-- a piece of text, and what it comes to -/
structure Ch (tx w : List Nat) (N : Nat) : Prop where
  go : ∀ {n : Nat} {rest : List Nat} {x : Option (List Nat)} {out : List Nat}, (∀ x' : Option (List Nat), x'.getD [] = x.getD [] ++ w → QQ n rest x' none out) → QQ (n + N) (tx ++ rest) x none out
theorem Ch.nil : Ch [] [] 0 := ⟨fun h => h _ (List.append_nil _).symm⟩
theorem Ch.app {t t' w w' : List Nat} {N N' : Nat} (h : Ch t w N) (h' : Ch t' w' N') : Ch (t ++ t') (w ++ w') (N' + N) :=
  ⟨fun k => by
    rw [List.append_assoc, ← Nat.add_assoc]
    refine h.go fun x1 e1 => h'.go fun x2 e2 => k x2 ?_
    rw [e2, e1, List.append_assoc]⟩
theorem Ch.end {t w : List Nat} {N : Nat} (h : Ch t w N) : QQ N t none none w := by
  have := h.go (n := 0) (rest := []) (x := none) (out := w) fun x e => by
    have := QQ.done (x := x)
    rw [e] at this
    exact this
  rwa [List.append_nil, Nat.zero_add] at this
theorem plus_base {n : Nat} {rest : List Nat} {x : Option (List Nat)} {out : List Nat} (h : QQ n rest (some (x.getD [] ++ PLUS)) none out) : QQ (n + 5) (43 :: 90 :: 121 :: 37 :: 120 :: rest) x none out := by
  refine .lit (by decide) (by decide) (by decide) rfl (.lit (by decide) (by decide) (by decide) rfl (.lit (by decide) (by decide) (by decide) rfl (.lit (by decide) (by decide) (by decide) rfl (.lit (by decide) (by decide) (by decide) rfl ?_))))
  simp only [Option.getD_some, List.append_assoc]
  exact h
theorem plus_top {n : Nat} {rest m : List Nat} {x y : Option (List Nat)} {out : List Nat} (hm : m ∈ longL) (h : QQ n rest x (some (m, some (y.getD [] ++ PLUS))) out) : QQ (n + 5) (43 :: 90 :: 121 :: 37 :: 120 :: rest) x (some (m, y)) out := by
  have ad : ∀ (y : Option (List Nat)) (z : List Nat), addS x z (some (m, y)) = some (x, some (m, some (y.getD [] ++ z))) := fun _ _ => if_pos hm
  refine .lit (by decide) (by decide) (by decide) (ad _ _) (.lit (by decide) (by decide) (by decide) (ad _ _) (.lit (by decide) (by decide) (by decide) (ad _ _) (.lit (by decide) (by decide) (by decide) (ad _ _) (.lit (by decide) (by decide) (by decide) (ad _ _) ?_))))
  simp only [Option.getD_some, List.append_assoc]
  exact h
section
variable {f d : Nat} {r1 : List Nat} (hf : f ∉ caseL) (hr : ∀ rest, esc (f :: (r1 ++ 43 :: rest)) = some ([d], r1.length + 2))
include hf hr
theorem one_esc {n : Nat} {tl : List Nat} {x x' : Option (List Nat)} {st st' : Top} {out : List Nat} (ha : addS x [d] st = some (x', st')) (h : QQ n (43 :: tl) x' st' out) : QQ (n + 1) (92 :: f :: (r1 ++ 43 :: tl)) x st out := by
  refine .esc (fun g r' e => ?_) (hr tl) (by simp only [List.length_append, List.length_cons]; omega) (by simp) ha ?_
  · cases e; exact hf
  · rw [show (92 :: f :: (r1 ++ 43 :: tl)).drop (r1.length + 2) = 43 :: tl by simp]; exact h
theorem ch_esc : Ch ((92 :: f :: r1) ++ PLUS) ([d] ++ PLUS) 6 := by
  refine ⟨fun {n rest x out} k => ?_⟩
  rw [show ((92 :: f :: r1) ++ PLUS) ++ rest = 92 :: f :: (r1 ++ 43 :: 90 :: 121 :: 37 :: 120 :: rest) by simp]
  refine one_esc hf hr rfl (plus_base (k _ ?_))
  simp
theorem ch_long {m : Nat} (hm : [m] ∈ longL) (hc : m ∈ caseL ∧ m ≠ 69) : Ch ([92] ++ [m] ++ ((92 :: f :: r1) ++ PLUS) ++ [92, 69]) (cas [m] ([d] ++ PLUS)) 8 := by
  refine ⟨fun {n rest x out} k => ?_⟩
  rw [show [92] ++ [m] ++ ((92 :: f :: r1) ++ PLUS) ++ [92, 69] ++ rest = 92 :: m :: (92 :: f :: (r1 ++ 43 :: 90 :: 121 :: 37 :: 120 :: (92 :: 69 :: rest))) by simp]
  have f1 : f ≠ 117 := by rintro rfl; exact hf (by decide)
  have f2 : f ≠ 108 := by rintro rfl; exact hf (by decide)
  refine .mark hc.1 hc.2 (by simp [f1]) (by simp [f2]) (one_esc hf hr (if_pos hm) (plus_top hm ?_))
  exact .fin (if_pos hm) (k _ rfl)
theorem ch_short {m : Nat} (hm : [m] ∉ longL) (hs : [m] ∈ shortL) (hc : m ∈ caseL ∧ m ≠ 69) (he : cas [m] ([d] ++ PLUS) = cas [m] [d] ++ PLUS) : Ch ([92] ++ [m] ++ ((92 :: f :: r1) ++ PLUS) ++ [92, 69]) (cas [m] ([d] ++ PLUS)) 8 := by
  refine ⟨fun {n rest x out} k => ?_⟩
  rw [show [92] ++ [m] ++ ((92 :: f :: r1) ++ PLUS) ++ [92, 69] ++ rest = 92 :: m :: (92 :: f :: (r1 ++ 43 :: 90 :: 121 :: 37 :: 120 :: (92 :: 69 :: rest))) by simp]
  have f1 : f ≠ 117 := by rintro rfl; exact hf (by decide)
  have f2 : f ≠ 108 := by rintro rfl; exact hf (by decide)
  refine .mark hc.1 hc.2 (by simp [f1]) (by simp [f2]) (one_esc hf hr ((if_neg hm).trans (if_pos ⟨hs, rfl⟩)) (plus_base ?_))
  refine .fin rfl (k _ ?_)
  rw [he]
  simp
theorem ch_mark {mk : List Nat} (hm : mk ∈ markL) : Ch ([92] ++ mk ++ ((92 :: f :: r1) ++ PLUS) ++ [92, 69]) (cas mk ([d] ++ PLUS)) 8 := by
  simp only [markL, List.mem_cons, List.not_mem_nil, or_false] at hm
  rcases hm with rfl | rfl | rfl | rfl | rfl | rfl
  · exact ch_long hf hr (by decide) (by decide)
  · exact ch_long hf hr (by decide) (by decide)
  · exact ch_long hf hr (by decide) (by decide)
  · exact ch_short hf hr (by decide) (by decide) (by decide) (by simp [cas])
  · exact ch_short hf hr (by decide) (by decide) (by decide) (by simp [cas])
  · exact ch_long hf hr (by decide) (by decide)
end
section
variable {n : Nat} {O : MH} {K : V → MH → Prop} {E : Int → MH → Prop}
theorem escapes_c (k : K (.fl (escL.map fun e => .tup [.str e.1, .str e.2])) O) : Hold (CC (n + 1) .escapes [] O K E) := by
  refine ⟨⟨rfl, fun L hL => Hold.out ?_⟩⟩; dsimp only [start, names, ar, List.length_cons, List.length_nil, Nat.zero_add, Nat.reduceAdd, Nat.reduceSub, Nat.sub_self, List.replicate, List.append_nil, List.cons_append, List.nil_append]
  refine s_ret ?_; dsimp only [we, wes, wbo, Option.toList, g0, g1, g2, g3, g4, g5, g6, g7, g8, g9, g10, g11, List.set_cons_zero, List.set_cons_succ, onDef, mthQ, methP, asI, asB, slQ, nn, binP, cmpQ, cmpP, subP, bfP, augP, inStr, shorts, Gl.val, tn0, tn1, tn2, tnl0, tnl1, tnl2, tnl3]
  exact .pure hL k
noncomputable abbrev pickL : List (List Nat) := [[], [85], [76], [81], [117], [108], [70], []]
theorem escaped_c {t : Addr} {tp : List Int} {a : Nat} (ha : a ≤ 8000) (k : ∀ a', a' ≤ a + 20 → K (.bool true) (upd O t (tapeC tp a'))) : Hold (CC (n + 9) .escaped [.lst t] (upd O t (tapeC tp a)) K E) := by
  refine ⟨⟨rfl, fun L hL => Hold.out ?_⟩⟩; dsimp only [start, names, ar, List.length_cons, List.length_nil, Nat.zero_add, Nat.reduceAdd, Nat.reduceSub, Nat.sub_self, List.replicate, List.append_nil, List.cons_append, List.nil_append]
  have hne : t ≠ L := by rintro rfl; rw [upd_self] at hL; cases hL
  have hL2 : O L = none := by rw [← hL, upd_ne _ (Ne.symm hne)]
  rw [upd_comm hne]
  refine s_assign ?_; dsimp only [we, wes, wbo, Option.toList, g0, g1, g2, g3, g4, g5, g6, g7, g8, g9, g10, g11, List.set_cons_zero, List.set_cons_succ, onDef, mthQ, methP, asI, asB, slQ, nn, binP, cmpQ, cmpP, subP, bfP, augP, inStr, shorts, Gl.val, tn0, tn1, tn2, tnl0, tnl1, tnl2, tnl3]
  refine s_assign ?_; dsimp only [we, wes, wbo, Option.toList, g0, g1, g2, g3, g4, g5, g6, g7, g8, g9, g10, g11, List.set_cons_zero, List.set_cons_succ, onDef, mthQ, methP, asI, asB, slQ, nn, binP, cmpQ, cmpP, subP, bfP, augP, inStr, shorts, Gl.val, tn0, tn1, tn2, tnl0, tnl1, tnl2, tnl3]
  refine s_for ?_
  dsimp only [we, wes, wbo, Option.toList, g0, g1, g2, g3, g4, g5, g6, g7, g8, g9, g10, g11, List.set_cons_zero, List.set_cons_succ, onDef, mthQ, methP, asI, asB, slQ, nn, binP, cmpQ, cmpP, subP, bfP, augP, inStr, shorts, Gl.val, tn0, tn1, tn2, tnl0, tnl1, tnl2, tnl3]
  refine take_u (m := 5) (by omega) (by decide) fun r hr => ?_
  dsimp only [we, wes, wbo, Option.toList, g0, g1, g2, g3, g4, g5, g6, g7, g8, g9, g10, g11, List.set_cons_zero, List.set_cons_succ, onDef, mthQ, methP, asI, asB, slQ, nn, binP, cmpQ, cmpP, subP, bfP, augP, inStr, shorts, Gl.val, tn0, tn1, tn2, tnl0, tnl1, tnl2, tnl3]
  rw [show (1 : Int) + (r : Int) = ((1 + r : Nat) : Int) by omega]
  refine ⟨_, rngItems (1 + r) (by omega), fun l σ O' => ∃ (tx w : List Nat) (N a' m : Nat) (s3 s4 s5 s6 s7 s8 : V), σ = [.lst t, .str tx, .str w, s3, s4, s5, s6, s7, s8] ∧ O' = upd (upd O L .frame) t (tapeC tp a') ∧ Ch tx w N ∧
    m + l.length ≤ 5 ∧ N ≤ m * 8 ∧ tx.length ≤ m * 24 ∧ w.length ≤ m * 20 ∧ a' ≤ a + 1 + m * 2, ⟨[], [], 0, a + 1, 0, .undef, .undef, .undef, .undef, .undef, .undef, rfl, rfl, .nil, by simp; omega, by omega, by simp, by simp, by omega⟩, ?_, ?_⟩
  · rintro x l σ O' ⟨tx, w, N, a', m, s3, s4, s5, s6, s7, s8, rfl, rfl, hch, hm, h1, h2, h3, h4⟩
    rw [List.length_cons] at hm
    refine s_unpack ?_; dsimp only [we, wes, wbo, Option.toList, g0, g1, g2, g3, g4, g5, g6, g7, g8, g9, g10, g11, List.set_cons_zero, List.set_cons_succ, onDef, mthQ, methP, asI, asB, slQ, nn, binP, cmpQ, cmpP, subP, bfP, augP, inStr, shorts, Gl.val, tn0, tn1, tn2, tnl0, tnl1, tnl2, tnl3]
    refine escapes_c ?_
    refine take_u (m := 26) (by omega) (by decide) fun z hz => ?_
    have hz' : z < escL.length := hz
    obtain ⟨e, he, hat⟩ : ∃ e ∈ escL, at? (escL.map fun e => V.tup [.str e.1, .str e.2]) (z : Int) = some (.tup [.str e.1, .str e.2]) :=
      ⟨escL[z], List.getElem_mem hz', by rw [at_nat, List.getElem?_map, List.getElem?_eq_getElem hz']; rfl⟩
    refine ⟨_, hat, ?_⟩
    obtain ⟨f, r1, d, e1, e2, hf, hl, hr⟩ := (escs e he).go
    obtain ⟨raw, sg⟩ := e
    dsimp only at e1 e2
    subst e1 e2
    dsimp only [we, wes, wbo, Option.toList, g0, g1, g2, g3, g4, g5, g6, g7, g8, g9, g10, g11, List.set_cons_zero, List.set_cons_succ, onDef, mthQ, methP, asI, asB, slQ, nn, binP, cmpQ, cmpP, subP, bfP, augP, inStr, shorts, Gl.val, tn0, tn1, tn2, tnl0, tnl1, tnl2, tnl3]
    clear hat he
    refine s_ifs ?_; dsimp only [we, wes, wbo, Option.toList, g0, g1, g2, g3, g4, g5, g6, g7, g8, g9, g10, g11, List.set_cons_zero, List.set_cons_succ, onDef, mthQ, methP, asI, asB, slQ, nn, binP, cmpQ, cmpP, subP, bfP, augP, inStr, shorts, Gl.val, tn0, tn1, tn2, tnl0, tnl1, tnl2, tnl3]
    refine ⟨szle (by (try simp only [List.length_append, List.length_cons, List.length_nil]); omega), szle (by (try simp only [List.length_append, List.length_cons, List.length_nil]); omega), esc_c (a := 2) (t := [97, 98] ++ (92 :: f :: r1) ++ [43]) (by simp) (hr []) ?_⟩
    dsimp only [we, wes, wbo, Option.toList, g0, g1, g2, g3, g4, g5, g6, g7, g8, g9, g10, g11, List.set_cons_zero, List.set_cons_succ, onDef, mthQ, methP, asI, asB, slQ, nn, binP, cmpQ, cmpP, subP, bfP, augP, inStr, shorts, Gl.val, tn0, tn1, tn2, tnl0, tnl1, tnl2, tnl3]
    refine i_f ?_ (s_join ?_)
    · rw [show (((2 + (r1.length + 2) : Nat) : Int) == 2 + ((92 :: f :: r1).length : Int)) = true by rw [beq_iff_eq, List.length_cons, List.length_cons]; omega]; simp
    refine s_assign ?_; dsimp only [we, wes, wbo, Option.toList, g0, g1, g2, g3, g4, g5, g6, g7, g8, g9, g10, g11, List.set_cons_zero, List.set_cons_succ, onDef, mthQ, methP, asI, asB, slQ, nn, binP, cmpQ, cmpP, subP, bfP, augP, inStr, shorts, Gl.val, tn0, tn1, tn2, tnl0, tnl1, tnl2, tnl3]
    refine take_u (m := 8) (by omega) (by decide) fun z hz => ?_
    obtain ⟨mk, hmk, hat⟩ := pick (l := pickL) (z := z) hz
    refine ⟨_, hat, ?_⟩
    refine s_assign ?_; dsimp only [we, wes, wbo, Option.toList, g0, g1, g2, g3, g4, g5, g6, g7, g8, g9, g10, g11, List.set_cons_zero, List.set_cons_succ, onDef, mthQ, methP, asI, asB, slQ, nn, binP, cmpQ, cmpP, subP, bfP, augP, inStr, shorts, Gl.val, tn0, tn1, tn2, tnl0, tnl1, tnl2, tnl3]
    refine ⟨szle (by (try simp only [List.length_append, List.length_cons, List.length_nil]); omega), ?_⟩
    refine s_assign ?_; dsimp only [we, wes, wbo, Option.toList, g0, g1, g2, g3, g4, g5, g6, g7, g8, g9, g10, g11, List.set_cons_zero, List.set_cons_succ, onDef, mthQ, methP, asI, asB, slQ, nn, binP, cmpQ, cmpP, subP, bfP, augP, inStr, shorts, Gl.val, tn0, tn1, tn2, tnl0, tnl1, tnl2, tnl3]
    refine ⟨szle (by (try simp only [List.length_append, List.length_cons, List.length_nil]); omega), ?_⟩
    refine s_if (ev_nes rfl) (fun q => ?_) (fun q => ?_)
    · have hmm : mk ∈ markL := by
        have : ∀ x ∈ pickL, (x != []) = true → x ∈ markL := by decide
        exact this mk hmk q
      have hml : mk.length ≤ 1 := (by decide : ∀ x ∈ markL, x.length ≤ 1) mk hmm
      have hcl : (cas mk ([d] ++ PLUS)).length ≤ 2 * 6 := cas_len mk _
      have hcm : (cas mk ([d] ++ [43, 90, 121, 37, 120])).length ≤ 2 * 6 := hcl
      refine s_aug ?_; dsimp only [we, wes, wbo, Option.toList, g0, g1, g2, g3, g4, g5, g6, g7, g8, g9, g10, g11, List.set_cons_zero, List.set_cons_succ, onDef, mthQ, methP, asI, asB, slQ, nn, binP, cmpQ, cmpP, subP, bfP, augP, inStr, shorts, Gl.val, tn0, tn1, tn2, tnl0, tnl1, tnl2, tnl3]
      refine ⟨szle (by (try simp only [List.length_append, List.length_cons, List.length_nil]); omega), szle (by (try simp only [List.length_append, List.length_cons, List.length_nil]); omega), szle (by (try simp only [List.length_append, List.length_cons, List.length_nil]); omega), szle (by (try simp only [List.length_append, List.length_cons, List.length_nil]); omega), ?_⟩
      refine s_aug ?_; dsimp only [we, wes, wbo, Option.toList, g0, g1, g2, g3, g4, g5, g6, g7, g8, g9, g10, g11, List.set_cons_zero, List.set_cons_succ, onDef, mthQ, methP, asI, asB, slQ, nn, binP, cmpQ, cmpP, subP, bfP, augP, inStr, shorts, Gl.val, tn0, tn1, tn2, tnl0, tnl1, tnl2, tnl3]
      refine lcas_c (by simp) hmm ⟨szle (by (try simp only [List.length_append, List.length_cons, List.length_nil]); omega), s_join (s_nil ?_)⟩
      dsimp only [seqK, loopK, leave]
      exact ⟨_, _, 8 + N, _, m + 1, _, _, _, _, _, _, rfl, rfl, hch.app (ch_mark hf hr hmm), by omega, by omega, by simp only [List.length_append, List.length_cons, List.length_nil]; omega, by rw [List.length_append]; omega, by omega⟩
    · refine s_aug ?_; dsimp only [we, wes, wbo, Option.toList, g0, g1, g2, g3, g4, g5, g6, g7, g8, g9, g10, g11, List.set_cons_zero, List.set_cons_succ, onDef, mthQ, methP, asI, asB, slQ, nn, binP, cmpQ, cmpP, subP, bfP, augP, inStr, shorts, Gl.val, tn0, tn1, tn2, tnl0, tnl1, tnl2, tnl3]
      refine ⟨szle (by (try simp only [List.length_append, List.length_cons, List.length_nil]); omega), ?_⟩
      refine s_aug ?_; dsimp only [we, wes, wbo, Option.toList, g0, g1, g2, g3, g4, g5, g6, g7, g8, g9, g10, g11, List.set_cons_zero, List.set_cons_succ, onDef, mthQ, methP, asI, asB, slQ, nn, binP, cmpQ, cmpP, subP, bfP, augP, inStr, shorts, Gl.val, tn0, tn1, tn2, tnl0, tnl1, tnl2, tnl3]
      refine ⟨szle (by (try simp only [List.length_append, List.length_cons, List.length_nil]); omega), s_join (s_nil ?_)⟩
      dsimp only [seqK, loopK, leave]
      exact ⟨_, _, 6 + N, _, m + 1, _, _, _, _, _, _, rfl, rfl, hch.app (ch_esc hf hr), by omega, by omega, by simp only [List.length_append, List.length_cons, List.length_nil]; omega, by simp only [List.length_append, List.length_cons, List.length_nil]; omega, by omega⟩
  · rintro σ O' ⟨tx, w, N, a', m, s3, s4, s5, s6, s7, s8, rfl, rfl, hch, hm, h1, h2, h3, h4⟩
    rw [List.length_nil] at hm
    refine s_ret ?_; dsimp only [we, wes, wbo, Option.toList, g0, g1, g2, g3, g4, g5, g6, g7, g8, g9, g10, g11, List.set_cons_zero, List.set_cons_succ, onDef, mthQ, methP, asI, asB, slQ, nn, binP, cmpQ, cmpP, subP, bfP, augP, inStr, shorts, Gl.val, tn0, tn1, tn2, tnl0, tnl1, tnl2, tnl3]
    refine plain_c hch.end (by omega) (by omega) ?_
    dsimp only [we, wes, wbo, Option.toList, g0, g1, g2, g3, g4, g5, g6, g7, g8, g9, g10, g11, List.set_cons_zero, List.set_cons_succ, onDef, mthQ, methP, asI, asB, slQ, nn, binP, cmpQ, cmpP, subP, bfP, augP, inStr, shorts, Gl.val, tn0, tn1, tn2, tnl0, tnl1, tnl2, tnl3]
    rw [beq_self_eq_true]
    refine i_f rfl (esc_c (a := 0) (t := [92]) (by decide) rfl ?_)
    dsimp only [we, wes, wbo, Option.toList, g0, g1, g2, g3, g4, g5, g6, g7, g8, g9, g10, g11, List.set_cons_zero, List.set_cons_succ, onDef, mthQ, methP, asI, asB, slQ, nn, binP, cmpQ, cmpP, subP, bfP, augP, inStr, shorts, Gl.val, tn0, tn1, tn2, tnl0, tnl1, tnl2, tnl3]
    exact i_f rfl (.tape hL2 hne (k a' (by omega)))
theorem law_c {zs : List Int} (k : K (.bool true) O) : Hold (CC (n + 10) .law [.fl (zs.map .int)] O K E) := by
  refine ⟨⟨rfl, fun L hL => Hold.out ?_⟩⟩; dsimp only [start, names, ar, List.length_cons, List.length_nil, Nat.zero_add, Nat.reduceAdd, Nat.reduceSub, Nat.sub_self, List.replicate, List.append_nil, List.cons_append, List.nil_append]
  refine s_assign ?_; dsimp only [we, wes, wbo, Option.toList, g0, g1, g2, g3, g4, g5, g6, g7, g8, g9, g10, g11, List.set_cons_zero, List.set_cons_succ, onDef, mthQ, methP, asI, asB, slQ, nn, binP, cmpQ, cmpP, subP, bfP, augP, inStr, shorts, Gl.val, tn0, tn1, tn2, tnl0, tnl1, tnl2, tnl3]
  refine ⟨by decide, rfl, by simp, fun t ht => ?_⟩
  rw [show [V.fl (cutL (zs.map V.int) none (some 60)), V.int 0] = [V.fl ((zs.take 60).map V.int), V.int ((0 : Nat) : Int)] by rw [List.map_take]; rfl]
  refine s_ret ?_; dsimp only [we, wes, wbo, Option.toList, g0, g1, g2, g3, g4, g5, g6, g7, g8, g9, g10, g11, List.set_cons_zero, List.set_cons_succ, onDef, mthQ, methP, asI, asB, slQ, nn, binP, cmpQ, cmpP, subP, bfP, augP, inStr, shorts, Gl.val, tn0, tn1, tn2, tnl0, tnl1, tnl2, tnl3]
  refine quotes_c (t := t) (tp := zs.take 60) (a := 0) (by decide) fun a1 h1 => ?_
  refine i_f rfl (words_c (by omega) fun a2 h2 => ?_)
  refine i_f rfl (escaped_c (by omega) fun a3 h3 => ?_)
  refine i_f rfl (here_c (by omega) fun a4 => ?_)
  exact i_f rfl (.drop (.pure hL k) (by simp) ht (ne2 ht).2)
end

end Mine
end
section
open PySem PySem.W PySem.Calls PyProof.Rows
set_option Elab.async false
set_option maxRecDepth 8000
set_option maxHeartbeats 2000000
set_option linter.all false
namespace Mine
theorem reads_ints {R : WRecords} {cl : Str → Option Addr} {w : World} {h : Heap} {O : MH} : ∀ {zs : List Int} {vs : List Value} {as : List Addr}, ReadsAllW R cl h vs (zs.map .int) as → Reps w h O (zs.map V.int) vs
  | [], vs, as, r => by cases r; rfl
  | z :: zs, vs, as, r => by
    cases r with
    | cons a b => cases a with
      | int i t => exact ⟨_, _, rfl, ⟨t, rfl⟩, reads_ints b⟩
theorem walk : WalkO q loose (fun _ _ => True) Base rw.row.toRowW dLaw [] fun f vs => PySem.call f vs := by
  intro w s₀ s₁ mg mb G Y a o pm cd doc dV kV ho hd hcode hdf hf hgens args vals as hpre hlay hr hwell hlow
  obtain ⟨hp1, hp2⟩ := pre_splitW hpre
  obtain ⟨d, ds, rfl, hd1, hd2⟩ := hasAllW_cons hp1
  obtain ⟨xs, rfl, hit⟩ := hasW_list hd1
  obtain ⟨zs, rfl⟩ := items_int hit
  have hds : ds = [] := by
    cases ds with
    | nil => rfl
    | cons _ _ => cases hd2
  subst hds
  have hlen : zs.length ≤ 63 := by
    have e : rw.row.toRowW.pre = .and (.not (.lt (.lit (.int 63)) (.len (.arg 0)))) (.lit (.bool true)) := rfl
    rw [e] at hp2
    by_cases qq : zs.length ≤ 63
    · exact qq
    · exfalso
      have e2 : less? (WData.int 63) (WData.int (zs.length : Int)) = some true := by
        show some (decide ((63 : Int) < (zs.length : Int))) = some true
        rw [decide_eq_true (by omega)]
      have e3 : less? (WData.int 63) (WData.int ((zs.map WData.int).length : Int)) = some true := by rw [List.length_map]; exact e2
      simp [WTm.holds, WTm.value, e2] at hp2
  cases hr with
  | cons x y =>
  cases y
  obtain ⟨l, oo, its, n, ai, rfl, h1, h2, h3, h4, rfl⟩ := readsW_list_open x
  obtain ⟨mg', n1, n2, _⟩ := Y.glob
  obtain rfl : mg = mg' := ns_unique G.T.g n1
  have ha : a = Fn.law.addr := by
    have e1 : mg dLaw.name = some (.ref Fn.law.addr) := by
      have := n2 (dLaw.name, .ref Fn.law.addr) (by
        have : globRows[35]? = some (dLaw.name, .ref Fn.law.addr) := by kernel_rfl
        exact List.mem_of_getElem? this)
      exact this
    rw [e1] at hf
    exact ((Value.ref.injEq ..).mp (Option.some.inj hf)).symm
  subst ha
  have iv : Inv ⟨w, s₁.heap, [], s₁.os⟩ (fun _ => none) s₁ := by
    refine ⟨Y, fun b o e => e, fun b o e => rfl, fun a l e => (nomatch e), trivial, fun env he => (nomatch he), fun a e => (nomatch e), hgens, rfl⟩
  have ok : AOk 40 ⟨w, s₁.heap, [], s₁.os⟩ callerA := ⟨rfl, by decide +kernel, by decide +kernel⟩
  have rep : Reps w s₁.heap (fun _ => none) [.fl (zs.map V.int)] [.ref l] := by
    refine ⟨_, _, rfl, ⟨l, its.toList, rfl, ⟨oo, h1, h2, n, by rw [h3]⟩, rfl, ?_, reads_ints h4⟩, rfl⟩
    rw [List.length_map]; exact szle (by omega)
  refine wpAny_mono ((cc_ok w 40) _ _ rfl rfl ok .law [.fl (zs.map V.int)] (fun _ => none) (fun v _ => v = .bool true) (fun _ _ => False) (law_c (n := 30) rfl).out s₁ [.ref l] iv rep) (fun v s' hv => ?_) fun e s' he => ?_
  · obtain ⟨v', O', nx, hr', rfl⟩ := hv
    obtain rfl : v = .bool true := hr'
    refine GoodW.toG ⟨.inl ⟨_, _, _, rfl, fun _ => rfl, .bool true, by kernel_rfl, fun _ => ⟨.nil, fun _ h => (nomatch h)⟩⟩, fun b o e => (nx.kept b o e).1 rfl, nx.inv.os, nx.inv.gens⟩
  · obtain ⟨_, _, _, _, _, _, hE⟩ := he
    exact hE.elim
theorem law_holds : PySem.Challenge.rw_nz0193_01.Holds := head walk

end Mine
end
theorem PySem.Challenge.cw_nz0193_01_holds : PySem.Challenge.rw_nz0193_01.Holds :=
  Mine.law_holds
