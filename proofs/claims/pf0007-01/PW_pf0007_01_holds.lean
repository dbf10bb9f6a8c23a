import PyProof.Rows.All
import Wide.All
import OpenK.AllK
import PyProof.ExcArgs
import PyProof.ExcAttrAll.Exception
import PyProof.InstStore
import PyProof.InstStoreFacts
import Wide.FinOn
import Lean
import PySem.Challenge.RW_pf0007_01
open PySem PySem.W PyProof.Rows PySem.Spec PySem.Calls
set_option Elab.async false
set_option maxRecDepth 100000
set_option maxHeartbeats 8000000
set_option linter.all false
set_option linter.unusedVariables false
section
namespace MineH
abbrev T1 := PySem.Str × PySem.Str
abbrev T2 := T1 × T1
abbrev T3 := T2 × T2
abbrev T4 := T3 × T3
abbrev T5 := T4 × T4
abbrev T6 := T5 × T5
abbrev T7 := T6 × T6
abbrev T8 := T7 × T7
noncomputable def sF (f : String → PySem.Str) : T8 := ((((((((f "__name__",f "basicplus.printing"),(f "page",f "out")),((f "append",f "row"),(f "",f "end_row"))),(((f "basicplus.values",f "MOST_EXPONENT"),(f "self",f "code")),((f "told",f "super"),(f "__init__",f "__class__")))),((((f "BasicError",f "Exception"),(f "number",f "many")),((f "bound",f "figures_of"),(f "places",f "unit"))),(((f "found",f "rest"),(f "rounded_by",f "coefficient")),((f "exponent",f "digits"),(f "size",f "abs"))))),(((((f "more",f "first"),(f "OV",f "made")),((f "basicplus.inputs",f "AGAIN"),(f "?Redo from start",f "BLANKS_inputs"))),(((f " \t",f "Waiting"),(f "text",f "at")),((f "len",f "blank_end"),(f "end",f "find")))),((((f "\"",f "quoted_field"),(f ",",f "rstrip")),((f "field_at",f "is_going"),(f "field",f "is_quoted"))),(((f "told_fields",f "kind"),(f "read_number",f "value_of_field")),((f "kinds",f "fields"),(f "zip",f "value")))))),((((((f "fitted_values",f "world"),(f "inputs",f "pop")),((f "next_input",f "prompt"),(f "is_marked",f "? "))),(((f "write_prompt",f "ask_values"),(f "item",f "text_of_item")),((f "spot",f "data"),(f "OD",f "line")))),((((f "SN",f "read_item"),(f "basicplus.declread",f "here")),((f "sign",f "strip"),(f "pieces_of",f "basicplus.decimals"))),(((f "NOUGHT",f "MOST_FIGURES"),(f "MOST_POWER",f "BLANKS_decimals")),((f "begin",f "0"),(f "9",f "ord"))))),(((((f "run_of_figures",f "EeDd"),(f "-",f "+")),((f "min",f "exponent_at"),(f "is_below",f "ahead"))),(((f "behind",f "."),(f "told_decimal",f "d_of_text")),((f "top",f "basicplus.rundo"),(f " ",f "number_by_text")))),((((f "basicplus.world",f "bits"),(f "most_steps",f "most_depth")),((f "room",f "names"),(f "arrays",f "fns"))),(((f "files",f "open"),(f "base",f "seed")),((f "steps",f "depth"),(f "handler",f "is_handling"))))))),(((((((f "error_line",f "error_code"),(f "is_traced",f "traces")),((f "common",f "World"),(f "law_pf0007_01",f "crate"))),(((f "turn",f "_law_next"),(f "tens",f "_law_bare")),((f "is_last",f "form"),(f "word",f "str")))),((((f "ab",f "a b"),(f "5x",f "written")),((f "gives",f "\"a,b:"),(f "a,b:",f "\"\""))),(((f "\" x",f "\" "),(f " \"",f "  ")),((f "_law_field",f "wrong"),(f "_law_read",f "script"))))),(((((f ".0",f "range"),(f "whole",f "decimal")),((f "enumerate",f "values"),(f "join",f "fit"))),(((f "good",f "7"),(f "is_right",f "left")),((f "heard",f "N"),(f "N? ",f "piece")))),((((f "index",f "fast"),(f "law",f "<module>")),((f "/claim/cut.py",f "__main__"),(f "type.__subclasses__.Exception.0",f "type.__subclasses__.Exception.n"))),(((f "__doc__",f "__package__"),(f "__loader__",f "__spec__")),((f "__annotations__",f "__builtins__"),(f "__file__",f "__cached__")))))),((((((f "__module__",f "__qualname__"),(f "__firstlineno__",f "__static_attributes__")),((f "__classcell__",f "BasicError.__init__"),(f "__weakref__",f "type.__subclasses__.Exception.1"))),(((f "World.__init__",f "__dict__"),(f "",f "")),((f "",f ""),(f "",f "")))),((((f "",f ""),(f "",f "")),((f "",f ""),(f "",f ""))),(((f "",f ""),(f "",f "")),((f "",f ""),(f "",f ""))))),(((((f "",f ""),(f "",f "")),((f "",f ""),(f "",f ""))),(((f "",f ""),(f "",f "")),((f "",f ""),(f "",f "")))),((((f "",f ""),(f "",f "")),((f "",f ""),(f "",f ""))),(((f "",f ""),(f "",f "")),((f "",f ""),(f "",f ""))))))))
noncomputable def s1 : T8 := ((((((((⟨⟨[(nat_lit 95),(nat_lit 95),(nat_lit 110),(nat_lit 97),(nat_lit 109),(nat_lit 101),(nat_lit 95),(nat_lit 95)]⟩⟩,⟨⟨[(nat_lit 98),(nat_lit 97),(nat_lit 115),(nat_lit 105),(nat_lit 99),(nat_lit 112),(nat_lit 108),(nat_lit 117),(nat_lit 115),(nat_lit 46),(nat_lit 112),(nat_lit 114),(nat_lit 105),(nat_lit 110),(nat_lit 116),(nat_lit 105),(nat_lit 110),(nat_lit 103)]⟩⟩),(⟨⟨[(nat_lit 112),(nat_lit 97),(nat_lit 103),(nat_lit 101)]⟩⟩,⟨⟨[(nat_lit 111),(nat_lit 117),(nat_lit 116)]⟩⟩)),((⟨⟨[(nat_lit 97),(nat_lit 112),(nat_lit 112),(nat_lit 101),(nat_lit 110),(nat_lit 100)]⟩⟩,⟨⟨[(nat_lit 114),(nat_lit 111),(nat_lit 119)]⟩⟩),(⟨⟨[]⟩⟩,⟨⟨[(nat_lit 101),(nat_lit 110),(nat_lit 100),(nat_lit 95),(nat_lit 114),(nat_lit 111),(nat_lit 119)]⟩⟩))),(((⟨⟨[(nat_lit 98),(nat_lit 97),(nat_lit 115),(nat_lit 105),(nat_lit 99),(nat_lit 112),(nat_lit 108),(nat_lit 117),(nat_lit 115),(nat_lit 46),(nat_lit 118),(nat_lit 97),(nat_lit 108),(nat_lit 117),(nat_lit 101),(nat_lit 115)]⟩⟩,⟨⟨[(nat_lit 77),(nat_lit 79),(nat_lit 83),(nat_lit 84),(nat_lit 95),(nat_lit 69),(nat_lit 88),(nat_lit 80),(nat_lit 79),(nat_lit 78),(nat_lit 69),(nat_lit 78),(nat_lit 84)]⟩⟩),(⟨⟨[(nat_lit 115),(nat_lit 101),(nat_lit 108),(nat_lit 102)]⟩⟩,⟨⟨[(nat_lit 99),(nat_lit 111),(nat_lit 100),(nat_lit 101)]⟩⟩)),((⟨⟨[(nat_lit 116),(nat_lit 111),(nat_lit 108),(nat_lit 100)]⟩⟩,⟨⟨[(nat_lit 115),(nat_lit 117),(nat_lit 112),(nat_lit 101),(nat_lit 114)]⟩⟩),(⟨⟨[(nat_lit 95),(nat_lit 95),(nat_lit 105),(nat_lit 110),(nat_lit 105),(nat_lit 116),(nat_lit 95),(nat_lit 95)]⟩⟩,⟨⟨[(nat_lit 95),(nat_lit 95),(nat_lit 99),(nat_lit 108),(nat_lit 97),(nat_lit 115),(nat_lit 115),(nat_lit 95),(nat_lit 95)]⟩⟩)))),((((⟨⟨[(nat_lit 66),(nat_lit 97),(nat_lit 115),(nat_lit 105),(nat_lit 99),(nat_lit 69),(nat_lit 114),(nat_lit 114),(nat_lit 111),(nat_lit 114)]⟩⟩,⟨⟨[(nat_lit 69),(nat_lit 120),(nat_lit 99),(nat_lit 101),(nat_lit 112),(nat_lit 116),(nat_lit 105),(nat_lit 111),(nat_lit 110)]⟩⟩),(⟨⟨[(nat_lit 110),(nat_lit 117),(nat_lit 109),(nat_lit 98),(nat_lit 101),(nat_lit 114)]⟩⟩,⟨⟨[(nat_lit 109),(nat_lit 97),(nat_lit 110),(nat_lit 121)]⟩⟩)),((⟨⟨[(nat_lit 98),(nat_lit 111),(nat_lit 117),(nat_lit 110),(nat_lit 100)]⟩⟩,⟨⟨[(nat_lit 102),(nat_lit 105),(nat_lit 103),(nat_lit 117),(nat_lit 114),(nat_lit 101),(nat_lit 115),(nat_lit 95),(nat_lit 111),(nat_lit 102)]⟩⟩),(⟨⟨[(nat_lit 112),(nat_lit 108),(nat_lit 97),(nat_lit 99),(nat_lit 101),(nat_lit 115)]⟩⟩,⟨⟨[(nat_lit 117),(nat_lit 110),(nat_lit 105),(nat_lit 116)]⟩⟩))),(((⟨⟨[(nat_lit 102),(nat_lit 111),(nat_lit 117),(nat_lit 110),(nat_lit 100)]⟩⟩,⟨⟨[(nat_lit 114),(nat_lit 101),(nat_lit 115),(nat_lit 116)]⟩⟩),(⟨⟨[(nat_lit 114),(nat_lit 111),(nat_lit 117),(nat_lit 110),(nat_lit 100),(nat_lit 101),(nat_lit 100),(nat_lit 95),(nat_lit 98),(nat_lit 121)]⟩⟩,⟨⟨[(nat_lit 99),(nat_lit 111),(nat_lit 101),(nat_lit 102),(nat_lit 102),(nat_lit 105),(nat_lit 99),(nat_lit 105),(nat_lit 101),(nat_lit 110),(nat_lit 116)]⟩⟩)),((⟨⟨[(nat_lit 101),(nat_lit 120),(nat_lit 112),(nat_lit 111),(nat_lit 110),(nat_lit 101),(nat_lit 110),(nat_lit 116)]⟩⟩,⟨⟨[(nat_lit 100),(nat_lit 105),(nat_lit 103),(nat_lit 105),(nat_lit 116),(nat_lit 115)]⟩⟩),(⟨⟨[(nat_lit 115),(nat_lit 105),(nat_lit 122),(nat_lit 101)]⟩⟩,⟨⟨[(nat_lit 97),(nat_lit 98),(nat_lit 115)]⟩⟩))))),(((((⟨⟨[(nat_lit 109),(nat_lit 111),(nat_lit 114),(nat_lit 101)]⟩⟩,⟨⟨[(nat_lit 102),(nat_lit 105),(nat_lit 114),(nat_lit 115),(nat_lit 116)]⟩⟩),(⟨⟨[(nat_lit 79),(nat_lit 86)]⟩⟩,⟨⟨[(nat_lit 109),(nat_lit 97),(nat_lit 100),(nat_lit 101)]⟩⟩)),((⟨⟨[(nat_lit 98),(nat_lit 97),(nat_lit 115),(nat_lit 105),(nat_lit 99),(nat_lit 112),(nat_lit 108),(nat_lit 117),(nat_lit 115),(nat_lit 46),(nat_lit 105),(nat_lit 110),(nat_lit 112),(nat_lit 117),(nat_lit 116),(nat_lit 115)]⟩⟩,⟨⟨[(nat_lit 65),(nat_lit 71),(nat_lit 65),(nat_lit 73),(nat_lit 78)]⟩⟩),(⟨⟨[(nat_lit 63),(nat_lit 82),(nat_lit 101),(nat_lit 100),(nat_lit 111),(nat_lit 32),(nat_lit 102),(nat_lit 114),(nat_lit 111),(nat_lit 109),(nat_lit 32),(nat_lit 115),(nat_lit 116),(nat_lit 97),(nat_lit 114),(nat_lit 116)]⟩⟩,⟨⟨[(nat_lit 66),(nat_lit 76),(nat_lit 65),(nat_lit 78),(nat_lit 75),(nat_lit 83),(nat_lit 95),(nat_lit 105),(nat_lit 110),(nat_lit 112),(nat_lit 117),(nat_lit 116),(nat_lit 115)]⟩⟩))),(((⟨⟨[(nat_lit 32),(nat_lit 9)]⟩⟩,⟨⟨[(nat_lit 87),(nat_lit 97),(nat_lit 105),(nat_lit 116),(nat_lit 105),(nat_lit 110),(nat_lit 103)]⟩⟩),(⟨⟨[(nat_lit 116),(nat_lit 101),(nat_lit 120),(nat_lit 116)]⟩⟩,⟨⟨[(nat_lit 97),(nat_lit 116)]⟩⟩)),((⟨⟨[(nat_lit 108),(nat_lit 101),(nat_lit 110)]⟩⟩,⟨⟨[(nat_lit 98),(nat_lit 108),(nat_lit 97),(nat_lit 110),(nat_lit 107),(nat_lit 95),(nat_lit 101),(nat_lit 110),(nat_lit 100)]⟩⟩),(⟨⟨[(nat_lit 101),(nat_lit 110),(nat_lit 100)]⟩⟩,⟨⟨[(nat_lit 102),(nat_lit 105),(nat_lit 110),(nat_lit 100)]⟩⟩)))),((((⟨⟨[(nat_lit 34)]⟩⟩,⟨⟨[(nat_lit 113),(nat_lit 117),(nat_lit 111),(nat_lit 116),(nat_lit 101),(nat_lit 100),(nat_lit 95),(nat_lit 102),(nat_lit 105),(nat_lit 101),(nat_lit 108),(nat_lit 100)]⟩⟩),(⟨⟨[(nat_lit 44)]⟩⟩,⟨⟨[(nat_lit 114),(nat_lit 115),(nat_lit 116),(nat_lit 114),(nat_lit 105),(nat_lit 112)]⟩⟩)),((⟨⟨[(nat_lit 102),(nat_lit 105),(nat_lit 101),(nat_lit 108),(nat_lit 100),(nat_lit 95),(nat_lit 97),(nat_lit 116)]⟩⟩,⟨⟨[(nat_lit 105),(nat_lit 115),(nat_lit 95),(nat_lit 103),(nat_lit 111),(nat_lit 105),(nat_lit 110),(nat_lit 103)]⟩⟩),(⟨⟨[(nat_lit 102),(nat_lit 105),(nat_lit 101),(nat_lit 108),(nat_lit 100)]⟩⟩,⟨⟨[(nat_lit 105),(nat_lit 115),(nat_lit 95),(nat_lit 113),(nat_lit 117),(nat_lit 111),(nat_lit 116),(nat_lit 101),(nat_lit 100)]⟩⟩))),(((⟨⟨[(nat_lit 116),(nat_lit 111),(nat_lit 108),(nat_lit 100),(nat_lit 95),(nat_lit 102),(nat_lit 105),(nat_lit 101),(nat_lit 108),(nat_lit 100),(nat_lit 115)]⟩⟩,⟨⟨[(nat_lit 107),(nat_lit 105),(nat_lit 110),(nat_lit 100)]⟩⟩),(⟨⟨[(nat_lit 114),(nat_lit 101),(nat_lit 97),(nat_lit 100),(nat_lit 95),(nat_lit 110),(nat_lit 117),(nat_lit 109),(nat_lit 98),(nat_lit 101),(nat_lit 114)]⟩⟩,⟨⟨[(nat_lit 118),(nat_lit 97),(nat_lit 108),(nat_lit 117),(nat_lit 101),(nat_lit 95),(nat_lit 111),(nat_lit 102),(nat_lit 95),(nat_lit 102),(nat_lit 105),(nat_lit 101),(nat_lit 108),(nat_lit 100)]⟩⟩)),((⟨⟨[(nat_lit 107),(nat_lit 105),(nat_lit 110),(nat_lit 100),(nat_lit 115)]⟩⟩,⟨⟨[(nat_lit 102),(nat_lit 105),(nat_lit 101),(nat_lit 108),(nat_lit 100),(nat_lit 115)]⟩⟩),(⟨⟨[(nat_lit 122),(nat_lit 105),(nat_lit 112)]⟩⟩,⟨⟨[(nat_lit 118),(nat_lit 97),(nat_lit 108),(nat_lit 117),(nat_lit 101)]⟩⟩)))))),((((((⟨⟨[(nat_lit 102),(nat_lit 105),(nat_lit 116),(nat_lit 116),(nat_lit 101),(nat_lit 100),(nat_lit 95),(nat_lit 118),(nat_lit 97),(nat_lit 108),(nat_lit 117),(nat_lit 101),(nat_lit 115)]⟩⟩,⟨⟨[(nat_lit 119),(nat_lit 111),(nat_lit 114),(nat_lit 108),(nat_lit 100)]⟩⟩),(⟨⟨[(nat_lit 105),(nat_lit 110),(nat_lit 112),(nat_lit 117),(nat_lit 116),(nat_lit 115)]⟩⟩,⟨⟨[(nat_lit 112),(nat_lit 111),(nat_lit 112)]⟩⟩)),((⟨⟨[(nat_lit 110),(nat_lit 101),(nat_lit 120),(nat_lit 116),(nat_lit 95),(nat_lit 105),(nat_lit 110),(nat_lit 112),(nat_lit 117),(nat_lit 116)]⟩⟩,⟨⟨[(nat_lit 112),(nat_lit 114),(nat_lit 111),(nat_lit 109),(nat_lit 112),(nat_lit 116)]⟩⟩),(⟨⟨[(nat_lit 105),(nat_lit 115),(nat_lit 95),(nat_lit 109),(nat_lit 97),(nat_lit 114),(nat_lit 107),(nat_lit 101),(nat_lit 100)]⟩⟩,⟨⟨[(nat_lit 63),(nat_lit 32)]⟩⟩))),(((⟨⟨[(nat_lit 119),(nat_lit 114),(nat_lit 105),(nat_lit 116),(nat_lit 101),(nat_lit 95),(nat_lit 112),(nat_lit 114),(nat_lit 111),(nat_lit 109),(nat_lit 112),(nat_lit 116)]⟩⟩,⟨⟨[(nat_lit 97),(nat_lit 115),(nat_lit 107),(nat_lit 95),(nat_lit 118),(nat_lit 97),(nat_lit 108),(nat_lit 117),(nat_lit 101),(nat_lit 115)]⟩⟩),(⟨⟨[(nat_lit 105),(nat_lit 116),(nat_lit 101),(nat_lit 109)]⟩⟩,⟨⟨[(nat_lit 116),(nat_lit 101),(nat_lit 120),(nat_lit 116),(nat_lit 95),(nat_lit 111),(nat_lit 102),(nat_lit 95),(nat_lit 105),(nat_lit 116),(nat_lit 101),(nat_lit 109)]⟩⟩)),((⟨⟨[(nat_lit 115),(nat_lit 112),(nat_lit 111),(nat_lit 116)]⟩⟩,⟨⟨[(nat_lit 100),(nat_lit 97),(nat_lit 116),(nat_lit 97)]⟩⟩),(⟨⟨[(nat_lit 79),(nat_lit 68)]⟩⟩,⟨⟨[(nat_lit 108),(nat_lit 105),(nat_lit 110),(nat_lit 101)]⟩⟩)))),((((⟨⟨[(nat_lit 83),(nat_lit 78)]⟩⟩,⟨⟨[(nat_lit 114),(nat_lit 101),(nat_lit 97),(nat_lit 100),(nat_lit 95),(nat_lit 105),(nat_lit 116),(nat_lit 101),(nat_lit 109)]⟩⟩),(⟨⟨[(nat_lit 98),(nat_lit 97),(nat_lit 115),(nat_lit 105),(nat_lit 99),(nat_lit 112),(nat_lit 108),(nat_lit 117),(nat_lit 115),(nat_lit 46),(nat_lit 100),(nat_lit 101),(nat_lit 99),(nat_lit 108),(nat_lit 114),(nat_lit 101),(nat_lit 97),(nat_lit 100)]⟩⟩,⟨⟨[(nat_lit 104),(nat_lit 101),(nat_lit 114),(nat_lit 101)]⟩⟩)),((⟨⟨[(nat_lit 115),(nat_lit 105),(nat_lit 103),(nat_lit 110)]⟩⟩,⟨⟨[(nat_lit 115),(nat_lit 116),(nat_lit 114),(nat_lit 105),(nat_lit 112)]⟩⟩),(⟨⟨[(nat_lit 112),(nat_lit 105),(nat_lit 101),(nat_lit 99),(nat_lit 101),(nat_lit 115),(nat_lit 95),(nat_lit 111),(nat_lit 102)]⟩⟩,⟨⟨[(nat_lit 98),(nat_lit 97),(nat_lit 115),(nat_lit 105),(nat_lit 99),(nat_lit 112),(nat_lit 108),(nat_lit 117),(nat_lit 115),(nat_lit 46),(nat_lit 100),(nat_lit 101),(nat_lit 99),(nat_lit 105),(nat_lit 109),(nat_lit 97),(nat_lit 108),(nat_lit 115)]⟩⟩))),(((⟨⟨[(nat_lit 78),(nat_lit 79),(nat_lit 85),(nat_lit 71),(nat_lit 72),(nat_lit 84)]⟩⟩,⟨⟨[(nat_lit 77),(nat_lit 79),(nat_lit 83),(nat_lit 84),(nat_lit 95),(nat_lit 70),(nat_lit 73),(nat_lit 71),(nat_lit 85),(nat_lit 82),(nat_lit 69),(nat_lit 83)]⟩⟩),(⟨⟨[(nat_lit 77),(nat_lit 79),(nat_lit 83),(nat_lit 84),(nat_lit 95),(nat_lit 80),(nat_lit 79),(nat_lit 87),(nat_lit 69),(nat_lit 82)]⟩⟩,⟨⟨[(nat_lit 66),(nat_lit 76),(nat_lit 65),(nat_lit 78),(nat_lit 75),(nat_lit 83),(nat_lit 95),(nat_lit 100),(nat_lit 101),(nat_lit 99),(nat_lit 105),(nat_lit 109),(nat_lit 97),(nat_lit 108),(nat_lit 115)]⟩⟩)),((⟨⟨[(nat_lit 98),(nat_lit 101),(nat_lit 103),(nat_lit 105),(nat_lit 110)]⟩⟩,⟨⟨[(nat_lit 48)]⟩⟩),(⟨⟨[(nat_lit 57)]⟩⟩,⟨⟨[(nat_lit 111),(nat_lit 114),(nat_lit 100)]⟩⟩))))),(((((⟨⟨[(nat_lit 114),(nat_lit 117),(nat_lit 110),(nat_lit 95),(nat_lit 111),(nat_lit 102),(nat_lit 95),(nat_lit 102),(nat_lit 105),(nat_lit 103),(nat_lit 117),(nat_lit 114),(nat_lit 101),(nat_lit 115)]⟩⟩,⟨⟨[(nat_lit 69),(nat_lit 101),(nat_lit 68),(nat_lit 100)]⟩⟩),(⟨⟨[(nat_lit 45)]⟩⟩,⟨⟨[(nat_lit 43)]⟩⟩)),((⟨⟨[(nat_lit 109),(nat_lit 105),(nat_lit 110)]⟩⟩,⟨⟨[(nat_lit 101),(nat_lit 120),(nat_lit 112),(nat_lit 111),(nat_lit 110),(nat_lit 101),(nat_lit 110),(nat_lit 116),(nat_lit 95),(nat_lit 97),(nat_lit 116)]⟩⟩),(⟨⟨[(nat_lit 105),(nat_lit 115),(nat_lit 95),(nat_lit 98),(nat_lit 101),(nat_lit 108),(nat_lit 111),(nat_lit 119)]⟩⟩,⟨⟨[(nat_lit 97),(nat_lit 104),(nat_lit 101),(nat_lit 97),(nat_lit 100)]⟩⟩))),(((⟨⟨[(nat_lit 98),(nat_lit 101),(nat_lit 104),(nat_lit 105),(nat_lit 110),(nat_lit 100)]⟩⟩,⟨⟨[(nat_lit 46)]⟩⟩),(⟨⟨[(nat_lit 116),(nat_lit 111),(nat_lit 108),(nat_lit 100),(nat_lit 95),(nat_lit 100),(nat_lit 101),(nat_lit 99),(nat_lit 105),(nat_lit 109),(nat_lit 97),(nat_lit 108)]⟩⟩,⟨⟨[(nat_lit 100),(nat_lit 95),(nat_lit 111),(nat_lit 102),(nat_lit 95),(nat_lit 116),(nat_lit 101),(nat_lit 120),(nat_lit 116)]⟩⟩)),((⟨⟨[(nat_lit 116),(nat_lit 111),(nat_lit 112)]⟩⟩,⟨⟨[(nat_lit 98),(nat_lit 97),(nat_lit 115),(nat_lit 105),(nat_lit 99),(nat_lit 112),(nat_lit 108),(nat_lit 117),(nat_lit 115),(nat_lit 46),(nat_lit 114),(nat_lit 117),(nat_lit 110),(nat_lit 100),(nat_lit 111)]⟩⟩),(⟨⟨[(nat_lit 32)]⟩⟩,⟨⟨[(nat_lit 110),(nat_lit 117),(nat_lit 109),(nat_lit 98),(nat_lit 101),(nat_lit 114),(nat_lit 95),(nat_lit 98),(nat_lit 121),(nat_lit 95),(nat_lit 116),(nat_lit 101),(nat_lit 120),(nat_lit 116)]⟩⟩)))),((((⟨⟨[(nat_lit 98),(nat_lit 97),(nat_lit 115),(nat_lit 105),(nat_lit 99),(nat_lit 112),(nat_lit 108),(nat_lit 117),(nat_lit 115),(nat_lit 46),(nat_lit 119),(nat_lit 111),(nat_lit 114),(nat_lit 108),(nat_lit 100)]⟩⟩,⟨⟨[(nat_lit 98),(nat_lit 105),(nat_lit 116),(nat_lit 115)]⟩⟩),(⟨⟨[(nat_lit 109),(nat_lit 111),(nat_lit 115),(nat_lit 116),(nat_lit 95),(nat_lit 115),(nat_lit 116),(nat_lit 101),(nat_lit 112),(nat_lit 115)]⟩⟩,⟨⟨[(nat_lit 109),(nat_lit 111),(nat_lit 115),(nat_lit 116),(nat_lit 95),(nat_lit 100),(nat_lit 101),(nat_lit 112),(nat_lit 116),(nat_lit 104)]⟩⟩)),((⟨⟨[(nat_lit 114),(nat_lit 111),(nat_lit 111),(nat_lit 109)]⟩⟩,⟨⟨[(nat_lit 110),(nat_lit 97),(nat_lit 109),(nat_lit 101),(nat_lit 115)]⟩⟩),(⟨⟨[(nat_lit 97),(nat_lit 114),(nat_lit 114),(nat_lit 97),(nat_lit 121),(nat_lit 115)]⟩⟩,⟨⟨[(nat_lit 102),(nat_lit 110),(nat_lit 115)]⟩⟩))),(((⟨⟨[(nat_lit 102),(nat_lit 105),(nat_lit 108),(nat_lit 101),(nat_lit 115)]⟩⟩,⟨⟨[(nat_lit 111),(nat_lit 112),(nat_lit 101),(nat_lit 110)]⟩⟩),(⟨⟨[(nat_lit 98),(nat_lit 97),(nat_lit 115),(nat_lit 101)]⟩⟩,⟨⟨[(nat_lit 115),(nat_lit 101),(nat_lit 101),(nat_lit 100)]⟩⟩)),((⟨⟨[(nat_lit 115),(nat_lit 116),(nat_lit 101),(nat_lit 112),(nat_lit 115)]⟩⟩,⟨⟨[(nat_lit 100),(nat_lit 101),(nat_lit 112),(nat_lit 116),(nat_lit 104)]⟩⟩),(⟨⟨[(nat_lit 104),(nat_lit 97),(nat_lit 110),(nat_lit 100),(nat_lit 108),(nat_lit 101),(nat_lit 114)]⟩⟩,⟨⟨[(nat_lit 105),(nat_lit 115),(nat_lit 95),(nat_lit 104),(nat_lit 97),(nat_lit 110),(nat_lit 100),(nat_lit 108),(nat_lit 105),(nat_lit 110),(nat_lit 103)]⟩⟩))))))),(((((((⟨⟨[(nat_lit 101),(nat_lit 114),(nat_lit 114),(nat_lit 111),(nat_lit 114),(nat_lit 95),(nat_lit 108),(nat_lit 105),(nat_lit 110),(nat_lit 101)]⟩⟩,⟨⟨[(nat_lit 101),(nat_lit 114),(nat_lit 114),(nat_lit 111),(nat_lit 114),(nat_lit 95),(nat_lit 99),(nat_lit 111),(nat_lit 100),(nat_lit 101)]⟩⟩),(⟨⟨[(nat_lit 105),(nat_lit 115),(nat_lit 95),(nat_lit 116),(nat_lit 114),(nat_lit 97),(nat_lit 99),(nat_lit 101),(nat_lit 100)]⟩⟩,⟨⟨[(nat_lit 116),(nat_lit 114),(nat_lit 97),(nat_lit 99),(nat_lit 101),(nat_lit 115)]⟩⟩)),((⟨⟨[(nat_lit 99),(nat_lit 111),(nat_lit 109),(nat_lit 109),(nat_lit 111),(nat_lit 110)]⟩⟩,⟨⟨[(nat_lit 87),(nat_lit 111),(nat_lit 114),(nat_lit 108),(nat_lit 100)]⟩⟩),(⟨⟨[(nat_lit 108),(nat_lit 97),(nat_lit 119),(nat_lit 95),(nat_lit 112),(nat_lit 102),(nat_lit 48),(nat_lit 48),(nat_lit 48),(nat_lit 55),(nat_lit 95),(nat_lit 48),(nat_lit 49)]⟩⟩,⟨⟨[(nat_lit 99),(nat_lit 114),(nat_lit 97),(nat_lit 116),(nat_lit 101)]⟩⟩))),(((⟨⟨[(nat_lit 116),(nat_lit 117),(nat_lit 114),(nat_lit 110)]⟩⟩,⟨⟨[(nat_lit 95),(nat_lit 108),(nat_lit 97),(nat_lit 119),(nat_lit 95),(nat_lit 110),(nat_lit 101),(nat_lit 120),(nat_lit 116)]⟩⟩),(⟨⟨[(nat_lit 116),(nat_lit 101),(nat_lit 110),(nat_lit 115)]⟩⟩,⟨⟨[(nat_lit 95),(nat_lit 108),(nat_lit 97),(nat_lit 119),(nat_lit 95),(nat_lit 98),(nat_lit 97),(nat_lit 114),(nat_lit 101)]⟩⟩)),((⟨⟨[(nat_lit 105),(nat_lit 115),(nat_lit 95),(nat_lit 108),(nat_lit 97),(nat_lit 115),(nat_lit 116)]⟩⟩,⟨⟨[(nat_lit 102),(nat_lit 111),(nat_lit 114),(nat_lit 109)]⟩⟩),(⟨⟨[(nat_lit 119),(nat_lit 111),(nat_lit 114),(nat_lit 100)]⟩⟩,⟨⟨[(nat_lit 115),(nat_lit 116),(nat_lit 114)]⟩⟩)))),((((⟨⟨[(nat_lit 97),(nat_lit 98)]⟩⟩,⟨⟨[(nat_lit 97),(nat_lit 32),(nat_lit 98)]⟩⟩),(⟨⟨[(nat_lit 53),(nat_lit 120)]⟩⟩,⟨⟨[(nat_lit 119),(nat_lit 114),(nat_lit 105),(nat_lit 116),(nat_lit 116),(nat_lit 101),(nat_lit 110)]⟩⟩)),((⟨⟨[(nat_lit 103),(nat_lit 105),(nat_lit 118),(nat_lit 101),(nat_lit 115)]⟩⟩,⟨⟨[(nat_lit 34),(nat_lit 97),(nat_lit 44),(nat_lit 98),(nat_lit 58)]⟩⟩),(⟨⟨[(nat_lit 97),(nat_lit 44),(nat_lit 98),(nat_lit 58)]⟩⟩,⟨⟨[(nat_lit 34),(nat_lit 34)]⟩⟩))),(((⟨⟨[(nat_lit 34),(nat_lit 32),(nat_lit 120)]⟩⟩,⟨⟨[(nat_lit 34),(nat_lit 32)]⟩⟩),(⟨⟨[(nat_lit 32),(nat_lit 34)]⟩⟩,⟨⟨[(nat_lit 32),(nat_lit 32)]⟩⟩)),((⟨⟨[(nat_lit 95),(nat_lit 108),(nat_lit 97),(nat_lit 119),(nat_lit 95),(nat_lit 102),(nat_lit 105),(nat_lit 101),(nat_lit 108),(nat_lit 100)]⟩⟩,⟨⟨[(nat_lit 119),(nat_lit 114),(nat_lit 111),(nat_lit 110),(nat_lit 103)]⟩⟩),(⟨⟨[(nat_lit 95),(nat_lit 108),(nat_lit 97),(nat_lit 119),(nat_lit 95),(nat_lit 114),(nat_lit 101),(nat_lit 97),(nat_lit 100)]⟩⟩,⟨⟨[(nat_lit 115),(nat_lit 99),(nat_lit 114),(nat_lit 105),(nat_lit 112),(nat_lit 116)]⟩⟩))))),(((((⟨⟨[(nat_lit 46),(nat_lit 48)]⟩⟩,⟨⟨[(nat_lit 114),(nat_lit 97),(nat_lit 110),(nat_lit 103),(nat_lit 101)]⟩⟩),(⟨⟨[(nat_lit 119),(nat_lit 104),(nat_lit 111),(nat_lit 108),(nat_lit 101)]⟩⟩,⟨⟨[(nat_lit 100),(nat_lit 101),(nat_lit 99),(nat_lit 105),(nat_lit 109),(nat_lit 97),(nat_lit 108)]⟩⟩)),((⟨⟨[(nat_lit 101),(nat_lit 110),(nat_lit 117),(nat_lit 109),(nat_lit 101),(nat_lit 114),(nat_lit 97),(nat_lit 116),(nat_lit 101)]⟩⟩,⟨⟨[(nat_lit 118),(nat_lit 97),(nat_lit 108),(nat_lit 117),(nat_lit 101),(nat_lit 115)]⟩⟩),(⟨⟨[(nat_lit 106),(nat_lit 111),(nat_lit 105),(nat_lit 110)]⟩⟩,⟨⟨[(nat_lit 102),(nat_lit 105),(nat_lit 116)]⟩⟩))),(((⟨⟨[(nat_lit 103),(nat_lit 111),(nat_lit 111),(nat_lit 100)]⟩⟩,⟨⟨[(nat_lit 55)]⟩⟩),(⟨⟨[(nat_lit 105),(nat_lit 115),(nat_lit 95),(nat_lit 114),(nat_lit 105),(nat_lit 103),(nat_lit 104),(nat_lit 116)]⟩⟩,⟨⟨[(nat_lit 108),(nat_lit 101),(nat_lit 102),(nat_lit 116)]⟩⟩)),((⟨⟨[(nat_lit 104),(nat_lit 101),(nat_lit 97),(nat_lit 114),(nat_lit 100)]⟩⟩,⟨⟨[(nat_lit 78)]⟩⟩),(⟨⟨[(nat_lit 78),(nat_lit 63),(nat_lit 32)]⟩⟩,⟨⟨[(nat_lit 112),(nat_lit 105),(nat_lit 101),(nat_lit 99),(nat_lit 101)]⟩⟩)))),((((⟨⟨[(nat_lit 105),(nat_lit 110),(nat_lit 100),(nat_lit 101),(nat_lit 120)]⟩⟩,⟨⟨[(nat_lit 102),(nat_lit 97),(nat_lit 115),(nat_lit 116)]⟩⟩),(⟨⟨[(nat_lit 108),(nat_lit 97),(nat_lit 119)]⟩⟩,⟨⟨[(nat_lit 60),(nat_lit 109),(nat_lit 111),(nat_lit 100),(nat_lit 117),(nat_lit 108),(nat_lit 101),(nat_lit 62)]⟩⟩)),((⟨⟨[(nat_lit 47),(nat_lit 99),(nat_lit 108),(nat_lit 97),(nat_lit 105),(nat_lit 109),(nat_lit 47),(nat_lit 99),(nat_lit 117),(nat_lit 116),(nat_lit 46),(nat_lit 112),(nat_lit 121)]⟩⟩,⟨⟨[(nat_lit 95),(nat_lit 95),(nat_lit 109),(nat_lit 97),(nat_lit 105),(nat_lit 110),(nat_lit 95),(nat_lit 95)]⟩⟩),(⟨⟨[(nat_lit 116),(nat_lit 121),(nat_lit 112),(nat_lit 101),(nat_lit 46),(nat_lit 95),(nat_lit 95),(nat_lit 115),(nat_lit 117),(nat_lit 98),(nat_lit 99),(nat_lit 108),(nat_lit 97),(nat_lit 115),(nat_lit 115),(nat_lit 101),(nat_lit 115),(nat_lit 95),(nat_lit 95),(nat_lit 46),(nat_lit 69),(nat_lit 120),(nat_lit 99),(nat_lit 101),(nat_lit 112),(nat_lit 116),(nat_lit 105),(nat_lit 111),(nat_lit 110),(nat_lit 46),(nat_lit 48)]⟩⟩,⟨⟨[(nat_lit 116),(nat_lit 121),(nat_lit 112),(nat_lit 101),(nat_lit 46),(nat_lit 95),(nat_lit 95),(nat_lit 115),(nat_lit 117),(nat_lit 98),(nat_lit 99),(nat_lit 108),(nat_lit 97),(nat_lit 115),(nat_lit 115),(nat_lit 101),(nat_lit 115),(nat_lit 95),(nat_lit 95),(nat_lit 46),(nat_lit 69),(nat_lit 120),(nat_lit 99),(nat_lit 101),(nat_lit 112),(nat_lit 116),(nat_lit 105),(nat_lit 111),(nat_lit 110),(nat_lit 46),(nat_lit 110)]⟩⟩))),(((⟨⟨[(nat_lit 95),(nat_lit 95),(nat_lit 100),(nat_lit 111),(nat_lit 99),(nat_lit 95),(nat_lit 95)]⟩⟩,⟨⟨[(nat_lit 95),(nat_lit 95),(nat_lit 112),(nat_lit 97),(nat_lit 99),(nat_lit 107),(nat_lit 97),(nat_lit 103),(nat_lit 101),(nat_lit 95),(nat_lit 95)]⟩⟩),(⟨⟨[(nat_lit 95),(nat_lit 95),(nat_lit 108),(nat_lit 111),(nat_lit 97),(nat_lit 100),(nat_lit 101),(nat_lit 114),(nat_lit 95),(nat_lit 95)]⟩⟩,⟨⟨[(nat_lit 95),(nat_lit 95),(nat_lit 115),(nat_lit 112),(nat_lit 101),(nat_lit 99),(nat_lit 95),(nat_lit 95)]⟩⟩)),((⟨⟨[(nat_lit 95),(nat_lit 95),(nat_lit 97),(nat_lit 110),(nat_lit 110),(nat_lit 111),(nat_lit 116),(nat_lit 97),(nat_lit 116),(nat_lit 105),(nat_lit 111),(nat_lit 110),(nat_lit 115),(nat_lit 95),(nat_lit 95)]⟩⟩,⟨⟨[(nat_lit 95),(nat_lit 95),(nat_lit 98),(nat_lit 117),(nat_lit 105),(nat_lit 108),(nat_lit 116),(nat_lit 105),(nat_lit 110),(nat_lit 115),(nat_lit 95),(nat_lit 95)]⟩⟩),(⟨⟨[(nat_lit 95),(nat_lit 95),(nat_lit 102),(nat_lit 105),(nat_lit 108),(nat_lit 101),(nat_lit 95),(nat_lit 95)]⟩⟩,⟨⟨[(nat_lit 95),(nat_lit 95),(nat_lit 99),(nat_lit 97),(nat_lit 99),(nat_lit 104),(nat_lit 101),(nat_lit 100),(nat_lit 95),(nat_lit 95)]⟩⟩)))))),((((((⟨⟨[(nat_lit 95),(nat_lit 95),(nat_lit 109),(nat_lit 111),(nat_lit 100),(nat_lit 117),(nat_lit 108),(nat_lit 101),(nat_lit 95),(nat_lit 95)]⟩⟩,⟨⟨[(nat_lit 95),(nat_lit 95),(nat_lit 113),(nat_lit 117),(nat_lit 97),(nat_lit 108),(nat_lit 110),(nat_lit 97),(nat_lit 109),(nat_lit 101),(nat_lit 95),(nat_lit 95)]⟩⟩),(⟨⟨[(nat_lit 95),(nat_lit 95),(nat_lit 102),(nat_lit 105),(nat_lit 114),(nat_lit 115),(nat_lit 116),(nat_lit 108),(nat_lit 105),(nat_lit 110),(nat_lit 101),(nat_lit 110),(nat_lit 111),(nat_lit 95),(nat_lit 95)]⟩⟩,⟨⟨[(nat_lit 95),(nat_lit 95),(nat_lit 115),(nat_lit 116),(nat_lit 97),(nat_lit 116),(nat_lit 105),(nat_lit 99),(nat_lit 95),(nat_lit 97),(nat_lit 116),(nat_lit 116),(nat_lit 114),(nat_lit 105),(nat_lit 98),(nat_lit 117),(nat_lit 116),(nat_lit 101),(nat_lit 115),(nat_lit 95),(nat_lit 95)]⟩⟩)),((⟨⟨[(nat_lit 95),(nat_lit 95),(nat_lit 99),(nat_lit 108),(nat_lit 97),(nat_lit 115),(nat_lit 115),(nat_lit 99),(nat_lit 101),(nat_lit 108),(nat_lit 108),(nat_lit 95),(nat_lit 95)]⟩⟩,⟨⟨[(nat_lit 66),(nat_lit 97),(nat_lit 115),(nat_lit 105),(nat_lit 99),(nat_lit 69),(nat_lit 114),(nat_lit 114),(nat_lit 111),(nat_lit 114),(nat_lit 46),(nat_lit 95),(nat_lit 95),(nat_lit 105),(nat_lit 110),(nat_lit 105),(nat_lit 116),(nat_lit 95),(nat_lit 95)]⟩⟩),(⟨⟨[(nat_lit 95),(nat_lit 95),(nat_lit 119),(nat_lit 101),(nat_lit 97),(nat_lit 107),(nat_lit 114),(nat_lit 101),(nat_lit 102),(nat_lit 95),(nat_lit 95)]⟩⟩,⟨⟨[(nat_lit 116),(nat_lit 121),(nat_lit 112),(nat_lit 101),(nat_lit 46),(nat_lit 95),(nat_lit 95),(nat_lit 115),(nat_lit 117),(nat_lit 98),(nat_lit 99),(nat_lit 108),(nat_lit 97),(nat_lit 115),(nat_lit 115),(nat_lit 101),(nat_lit 115),(nat_lit 95),(nat_lit 95),(nat_lit 46),(nat_lit 69),(nat_lit 120),(nat_lit 99),(nat_lit 101),(nat_lit 112),(nat_lit 116),(nat_lit 105),(nat_lit 111),(nat_lit 110),(nat_lit 46),(nat_lit 49)]⟩⟩))),(((⟨⟨[(nat_lit 87),(nat_lit 111),(nat_lit 114),(nat_lit 108),(nat_lit 100),(nat_lit 46),(nat_lit 95),(nat_lit 95),(nat_lit 105),(nat_lit 110),(nat_lit 105),(nat_lit 116),(nat_lit 95),(nat_lit 95)]⟩⟩,⟨⟨[(nat_lit 95),(nat_lit 95),(nat_lit 100),(nat_lit 105),(nat_lit 99),(nat_lit 116),(nat_lit 95),(nat_lit 95)]⟩⟩),(⟨⟨[]⟩⟩,⟨⟨[]⟩⟩)),((⟨⟨[]⟩⟩,⟨⟨[]⟩⟩),(⟨⟨[]⟩⟩,⟨⟨[]⟩⟩)))),((((⟨⟨[]⟩⟩,⟨⟨[]⟩⟩),(⟨⟨[]⟩⟩,⟨⟨[]⟩⟩)),((⟨⟨[]⟩⟩,⟨⟨[]⟩⟩),(⟨⟨[]⟩⟩,⟨⟨[]⟩⟩))),(((⟨⟨[]⟩⟩,⟨⟨[]⟩⟩),(⟨⟨[]⟩⟩,⟨⟨[]⟩⟩)),((⟨⟨[]⟩⟩,⟨⟨[]⟩⟩),(⟨⟨[]⟩⟩,⟨⟨[]⟩⟩))))),(((((⟨⟨[]⟩⟩,⟨⟨[]⟩⟩),(⟨⟨[]⟩⟩,⟨⟨[]⟩⟩)),((⟨⟨[]⟩⟩,⟨⟨[]⟩⟩),(⟨⟨[]⟩⟩,⟨⟨[]⟩⟩))),(((⟨⟨[]⟩⟩,⟨⟨[]⟩⟩),(⟨⟨[]⟩⟩,⟨⟨[]⟩⟩)),((⟨⟨[]⟩⟩,⟨⟨[]⟩⟩),(⟨⟨[]⟩⟩,⟨⟨[]⟩⟩)))),((((⟨⟨[]⟩⟩,⟨⟨[]⟩⟩),(⟨⟨[]⟩⟩,⟨⟨[]⟩⟩)),((⟨⟨[]⟩⟩,⟨⟨[]⟩⟩),(⟨⟨[]⟩⟩,⟨⟨[]⟩⟩))),(((⟨⟨[]⟩⟩,⟨⟨[]⟩⟩),(⟨⟨[]⟩⟩,⟨⟨[]⟩⟩)),((⟨⟨[]⟩⟩,⟨⟨[]⟩⟩),(⟨⟨[]⟩⟩,⟨⟨[]⟩⟩))))))))
@[reducible] noncomputable def s0 : T8 := sF Str.ofString
theorem s01 : s0 = s1 := (congrArg sF Str.ofString_eq_byList).trans (by kernel_rfl)
@[reducible] noncomputable def a0 (s : T8) : PySem.Str := s.1.1.1.1.1.1.1.1
@[reducible] noncomputable def a1 (s : T8) : PySem.Str := s.1.1.1.1.1.1.1.2
@[reducible] noncomputable def a2 (s : T8) : PySem.Str := s.1.1.1.1.1.1.2.1
@[reducible] noncomputable def a3 (s : T8) : PySem.Str := s.1.1.1.1.1.1.2.2
@[reducible] noncomputable def a4 (s : T8) : PySem.Str := s.1.1.1.1.1.2.1.1
@[reducible] noncomputable def a5 (s : T8) : PySem.Str := s.1.1.1.1.1.2.1.2
@[reducible] noncomputable def a6 (s : T8) : PySem.Str := s.1.1.1.1.1.2.2.1
@[reducible] noncomputable def a7 (s : T8) : PySem.Str := s.1.1.1.1.1.2.2.2
@[reducible] noncomputable def a8 (s : T8) : PySem.Str := s.1.1.1.1.2.1.1.1
@[reducible] noncomputable def a9 (s : T8) : PySem.Str := s.1.1.1.1.2.1.1.2
@[reducible] noncomputable def a10 (s : T8) : PySem.Str := s.1.1.1.1.2.1.2.1
@[reducible] noncomputable def a11 (s : T8) : PySem.Str := s.1.1.1.1.2.1.2.2
@[reducible] noncomputable def a12 (s : T8) : PySem.Str := s.1.1.1.1.2.2.1.1
@[reducible] noncomputable def a13 (s : T8) : PySem.Str := s.1.1.1.1.2.2.1.2
@[reducible] noncomputable def a14 (s : T8) : PySem.Str := s.1.1.1.1.2.2.2.1
@[reducible] noncomputable def a15 (s : T8) : PySem.Str := s.1.1.1.1.2.2.2.2
@[reducible] noncomputable def a16 (s : T8) : PySem.Str := s.1.1.1.2.1.1.1.1
@[reducible] noncomputable def a17 (s : T8) : PySem.Str := s.1.1.1.2.1.1.1.2
@[reducible] noncomputable def a18 (s : T8) : PySem.Str := s.1.1.1.2.1.1.2.1
@[reducible] noncomputable def a19 (s : T8) : PySem.Str := s.1.1.1.2.1.1.2.2
@[reducible] noncomputable def a20 (s : T8) : PySem.Str := s.1.1.1.2.1.2.1.1
@[reducible] noncomputable def a21 (s : T8) : PySem.Str := s.1.1.1.2.1.2.1.2
@[reducible] noncomputable def a22 (s : T8) : PySem.Str := s.1.1.1.2.1.2.2.1
@[reducible] noncomputable def a23 (s : T8) : PySem.Str := s.1.1.1.2.1.2.2.2
@[reducible] noncomputable def a24 (s : T8) : PySem.Str := s.1.1.1.2.2.1.1.1
@[reducible] noncomputable def a25 (s : T8) : PySem.Str := s.1.1.1.2.2.1.1.2
@[reducible] noncomputable def a26 (s : T8) : PySem.Str := s.1.1.1.2.2.1.2.1
@[reducible] noncomputable def a27 (s : T8) : PySem.Str := s.1.1.1.2.2.1.2.2
@[reducible] noncomputable def a28 (s : T8) : PySem.Str := s.1.1.1.2.2.2.1.1
@[reducible] noncomputable def a29 (s : T8) : PySem.Str := s.1.1.1.2.2.2.1.2
@[reducible] noncomputable def a30 (s : T8) : PySem.Str := s.1.1.1.2.2.2.2.1
@[reducible] noncomputable def a31 (s : T8) : PySem.Str := s.1.1.1.2.2.2.2.2
@[reducible] noncomputable def a32 (s : T8) : PySem.Str := s.1.1.2.1.1.1.1.1
@[reducible] noncomputable def a33 (s : T8) : PySem.Str := s.1.1.2.1.1.1.1.2
@[reducible] noncomputable def a34 (s : T8) : PySem.Str := s.1.1.2.1.1.1.2.1
@[reducible] noncomputable def a35 (s : T8) : PySem.Str := s.1.1.2.1.1.1.2.2
@[reducible] noncomputable def a36 (s : T8) : PySem.Str := s.1.1.2.1.1.2.1.1
@[reducible] noncomputable def a37 (s : T8) : PySem.Str := s.1.1.2.1.1.2.1.2
@[reducible] noncomputable def a38 (s : T8) : PySem.Str := s.1.1.2.1.1.2.2.1
@[reducible] noncomputable def a39 (s : T8) : PySem.Str := s.1.1.2.1.1.2.2.2
@[reducible] noncomputable def a40 (s : T8) : PySem.Str := s.1.1.2.1.2.1.1.1
@[reducible] noncomputable def a41 (s : T8) : PySem.Str := s.1.1.2.1.2.1.1.2
@[reducible] noncomputable def a42 (s : T8) : PySem.Str := s.1.1.2.1.2.1.2.1
@[reducible] noncomputable def a43 (s : T8) : PySem.Str := s.1.1.2.1.2.1.2.2
@[reducible] noncomputable def a44 (s : T8) : PySem.Str := s.1.1.2.1.2.2.1.1
@[reducible] noncomputable def a45 (s : T8) : PySem.Str := s.1.1.2.1.2.2.1.2
@[reducible] noncomputable def a46 (s : T8) : PySem.Str := s.1.1.2.1.2.2.2.1
@[reducible] noncomputable def a47 (s : T8) : PySem.Str := s.1.1.2.1.2.2.2.2
@[reducible] noncomputable def a48 (s : T8) : PySem.Str := s.1.1.2.2.1.1.1.1
@[reducible] noncomputable def a49 (s : T8) : PySem.Str := s.1.1.2.2.1.1.1.2
@[reducible] noncomputable def a50 (s : T8) : PySem.Str := s.1.1.2.2.1.1.2.1
@[reducible] noncomputable def a51 (s : T8) : PySem.Str := s.1.1.2.2.1.1.2.2
@[reducible] noncomputable def a52 (s : T8) : PySem.Str := s.1.1.2.2.1.2.1.1
@[reducible] noncomputable def a53 (s : T8) : PySem.Str := s.1.1.2.2.1.2.1.2
@[reducible] noncomputable def a54 (s : T8) : PySem.Str := s.1.1.2.2.1.2.2.1
@[reducible] noncomputable def a55 (s : T8) : PySem.Str := s.1.1.2.2.1.2.2.2
@[reducible] noncomputable def a56 (s : T8) : PySem.Str := s.1.1.2.2.2.1.1.1
@[reducible] noncomputable def a57 (s : T8) : PySem.Str := s.1.1.2.2.2.1.1.2
@[reducible] noncomputable def a58 (s : T8) : PySem.Str := s.1.1.2.2.2.1.2.1
@[reducible] noncomputable def a59 (s : T8) : PySem.Str := s.1.1.2.2.2.1.2.2
@[reducible] noncomputable def a60 (s : T8) : PySem.Str := s.1.1.2.2.2.2.1.1
@[reducible] noncomputable def a61 (s : T8) : PySem.Str := s.1.1.2.2.2.2.1.2
@[reducible] noncomputable def a62 (s : T8) : PySem.Str := s.1.1.2.2.2.2.2.1
@[reducible] noncomputable def a63 (s : T8) : PySem.Str := s.1.1.2.2.2.2.2.2
@[reducible] noncomputable def a64 (s : T8) : PySem.Str := s.1.2.1.1.1.1.1.1
@[reducible] noncomputable def a65 (s : T8) : PySem.Str := s.1.2.1.1.1.1.1.2
@[reducible] noncomputable def a66 (s : T8) : PySem.Str := s.1.2.1.1.1.1.2.1
@[reducible] noncomputable def a67 (s : T8) : PySem.Str := s.1.2.1.1.1.1.2.2
@[reducible] noncomputable def a68 (s : T8) : PySem.Str := s.1.2.1.1.1.2.1.1
@[reducible] noncomputable def a69 (s : T8) : PySem.Str := s.1.2.1.1.1.2.1.2
@[reducible] noncomputable def a70 (s : T8) : PySem.Str := s.1.2.1.1.1.2.2.1
@[reducible] noncomputable def a71 (s : T8) : PySem.Str := s.1.2.1.1.1.2.2.2
@[reducible] noncomputable def a72 (s : T8) : PySem.Str := s.1.2.1.1.2.1.1.1
@[reducible] noncomputable def a73 (s : T8) : PySem.Str := s.1.2.1.1.2.1.1.2
@[reducible] noncomputable def a74 (s : T8) : PySem.Str := s.1.2.1.1.2.1.2.1
@[reducible] noncomputable def a75 (s : T8) : PySem.Str := s.1.2.1.1.2.1.2.2
@[reducible] noncomputable def a76 (s : T8) : PySem.Str := s.1.2.1.1.2.2.1.1
@[reducible] noncomputable def a77 (s : T8) : PySem.Str := s.1.2.1.1.2.2.1.2
@[reducible] noncomputable def a78 (s : T8) : PySem.Str := s.1.2.1.1.2.2.2.1
@[reducible] noncomputable def a79 (s : T8) : PySem.Str := s.1.2.1.1.2.2.2.2
@[reducible] noncomputable def a80 (s : T8) : PySem.Str := s.1.2.1.2.1.1.1.1
@[reducible] noncomputable def a81 (s : T8) : PySem.Str := s.1.2.1.2.1.1.1.2
@[reducible] noncomputable def a82 (s : T8) : PySem.Str := s.1.2.1.2.1.1.2.1
@[reducible] noncomputable def a83 (s : T8) : PySem.Str := s.1.2.1.2.1.1.2.2
@[reducible] noncomputable def a84 (s : T8) : PySem.Str := s.1.2.1.2.1.2.1.1
@[reducible] noncomputable def a85 (s : T8) : PySem.Str := s.1.2.1.2.1.2.1.2
@[reducible] noncomputable def a86 (s : T8) : PySem.Str := s.1.2.1.2.1.2.2.1
@[reducible] noncomputable def a87 (s : T8) : PySem.Str := s.1.2.1.2.1.2.2.2
@[reducible] noncomputable def a88 (s : T8) : PySem.Str := s.1.2.1.2.2.1.1.1
@[reducible] noncomputable def a89 (s : T8) : PySem.Str := s.1.2.1.2.2.1.1.2
@[reducible] noncomputable def a90 (s : T8) : PySem.Str := s.1.2.1.2.2.1.2.1
@[reducible] noncomputable def a91 (s : T8) : PySem.Str := s.1.2.1.2.2.1.2.2
@[reducible] noncomputable def a92 (s : T8) : PySem.Str := s.1.2.1.2.2.2.1.1
@[reducible] noncomputable def a93 (s : T8) : PySem.Str := s.1.2.1.2.2.2.1.2
@[reducible] noncomputable def a94 (s : T8) : PySem.Str := s.1.2.1.2.2.2.2.1
@[reducible] noncomputable def a95 (s : T8) : PySem.Str := s.1.2.1.2.2.2.2.2
@[reducible] noncomputable def a96 (s : T8) : PySem.Str := s.1.2.2.1.1.1.1.1
@[reducible] noncomputable def a97 (s : T8) : PySem.Str := s.1.2.2.1.1.1.1.2
@[reducible] noncomputable def a98 (s : T8) : PySem.Str := s.1.2.2.1.1.1.2.1
@[reducible] noncomputable def a99 (s : T8) : PySem.Str := s.1.2.2.1.1.1.2.2
@[reducible] noncomputable def a100 (s : T8) : PySem.Str := s.1.2.2.1.1.2.1.1
@[reducible] noncomputable def a101 (s : T8) : PySem.Str := s.1.2.2.1.1.2.1.2
@[reducible] noncomputable def a102 (s : T8) : PySem.Str := s.1.2.2.1.1.2.2.1
@[reducible] noncomputable def a103 (s : T8) : PySem.Str := s.1.2.2.1.1.2.2.2
@[reducible] noncomputable def a104 (s : T8) : PySem.Str := s.1.2.2.1.2.1.1.1
@[reducible] noncomputable def a105 (s : T8) : PySem.Str := s.1.2.2.1.2.1.1.2
@[reducible] noncomputable def a106 (s : T8) : PySem.Str := s.1.2.2.1.2.1.2.1
@[reducible] noncomputable def a107 (s : T8) : PySem.Str := s.1.2.2.1.2.1.2.2
@[reducible] noncomputable def a108 (s : T8) : PySem.Str := s.1.2.2.1.2.2.1.1
@[reducible] noncomputable def a109 (s : T8) : PySem.Str := s.1.2.2.1.2.2.1.2
@[reducible] noncomputable def a110 (s : T8) : PySem.Str := s.1.2.2.1.2.2.2.1
@[reducible] noncomputable def a111 (s : T8) : PySem.Str := s.1.2.2.1.2.2.2.2
@[reducible] noncomputable def a112 (s : T8) : PySem.Str := s.1.2.2.2.1.1.1.1
@[reducible] noncomputable def a113 (s : T8) : PySem.Str := s.1.2.2.2.1.1.1.2
@[reducible] noncomputable def a114 (s : T8) : PySem.Str := s.1.2.2.2.1.1.2.1
@[reducible] noncomputable def a115 (s : T8) : PySem.Str := s.1.2.2.2.1.1.2.2
@[reducible] noncomputable def a116 (s : T8) : PySem.Str := s.1.2.2.2.1.2.1.1
@[reducible] noncomputable def a117 (s : T8) : PySem.Str := s.1.2.2.2.1.2.1.2
@[reducible] noncomputable def a118 (s : T8) : PySem.Str := s.1.2.2.2.1.2.2.1
@[reducible] noncomputable def a119 (s : T8) : PySem.Str := s.1.2.2.2.1.2.2.2
@[reducible] noncomputable def a120 (s : T8) : PySem.Str := s.1.2.2.2.2.1.1.1
@[reducible] noncomputable def a121 (s : T8) : PySem.Str := s.1.2.2.2.2.1.1.2
@[reducible] noncomputable def a122 (s : T8) : PySem.Str := s.1.2.2.2.2.1.2.1
@[reducible] noncomputable def a123 (s : T8) : PySem.Str := s.1.2.2.2.2.1.2.2
@[reducible] noncomputable def a124 (s : T8) : PySem.Str := s.1.2.2.2.2.2.1.1
@[reducible] noncomputable def a125 (s : T8) : PySem.Str := s.1.2.2.2.2.2.1.2
@[reducible] noncomputable def a126 (s : T8) : PySem.Str := s.1.2.2.2.2.2.2.1
@[reducible] noncomputable def a127 (s : T8) : PySem.Str := s.1.2.2.2.2.2.2.2
@[reducible] noncomputable def a128 (s : T8) : PySem.Str := s.2.1.1.1.1.1.1.1
@[reducible] noncomputable def a129 (s : T8) : PySem.Str := s.2.1.1.1.1.1.1.2
@[reducible] noncomputable def a130 (s : T8) : PySem.Str := s.2.1.1.1.1.1.2.1
@[reducible] noncomputable def a131 (s : T8) : PySem.Str := s.2.1.1.1.1.1.2.2
@[reducible] noncomputable def a132 (s : T8) : PySem.Str := s.2.1.1.1.1.2.1.1
@[reducible] noncomputable def a133 (s : T8) : PySem.Str := s.2.1.1.1.1.2.1.2
@[reducible] noncomputable def a134 (s : T8) : PySem.Str := s.2.1.1.1.1.2.2.1
@[reducible] noncomputable def a135 (s : T8) : PySem.Str := s.2.1.1.1.1.2.2.2
@[reducible] noncomputable def a136 (s : T8) : PySem.Str := s.2.1.1.1.2.1.1.1
@[reducible] noncomputable def a137 (s : T8) : PySem.Str := s.2.1.1.1.2.1.1.2
@[reducible] noncomputable def a138 (s : T8) : PySem.Str := s.2.1.1.1.2.1.2.1
@[reducible] noncomputable def a139 (s : T8) : PySem.Str := s.2.1.1.1.2.1.2.2
@[reducible] noncomputable def a140 (s : T8) : PySem.Str := s.2.1.1.1.2.2.1.1
@[reducible] noncomputable def a141 (s : T8) : PySem.Str := s.2.1.1.1.2.2.1.2
@[reducible] noncomputable def a142 (s : T8) : PySem.Str := s.2.1.1.1.2.2.2.1
@[reducible] noncomputable def a143 (s : T8) : PySem.Str := s.2.1.1.1.2.2.2.2
@[reducible] noncomputable def a144 (s : T8) : PySem.Str := s.2.1.1.2.1.1.1.1
@[reducible] noncomputable def a145 (s : T8) : PySem.Str := s.2.1.1.2.1.1.1.2
@[reducible] noncomputable def a146 (s : T8) : PySem.Str := s.2.1.1.2.1.1.2.1
@[reducible] noncomputable def a147 (s : T8) : PySem.Str := s.2.1.1.2.1.1.2.2
@[reducible] noncomputable def a148 (s : T8) : PySem.Str := s.2.1.1.2.1.2.1.1
@[reducible] noncomputable def a149 (s : T8) : PySem.Str := s.2.1.1.2.1.2.1.2
@[reducible] noncomputable def a150 (s : T8) : PySem.Str := s.2.1.1.2.1.2.2.1
@[reducible] noncomputable def a151 (s : T8) : PySem.Str := s.2.1.1.2.1.2.2.2
@[reducible] noncomputable def a152 (s : T8) : PySem.Str := s.2.1.1.2.2.1.1.1
@[reducible] noncomputable def a153 (s : T8) : PySem.Str := s.2.1.1.2.2.1.1.2
@[reducible] noncomputable def a154 (s : T8) : PySem.Str := s.2.1.1.2.2.1.2.1
@[reducible] noncomputable def a155 (s : T8) : PySem.Str := s.2.1.1.2.2.1.2.2
@[reducible] noncomputable def a156 (s : T8) : PySem.Str := s.2.1.1.2.2.2.1.1
@[reducible] noncomputable def a157 (s : T8) : PySem.Str := s.2.1.1.2.2.2.1.2
@[reducible] noncomputable def a158 (s : T8) : PySem.Str := s.2.1.1.2.2.2.2.1
@[reducible] noncomputable def a159 (s : T8) : PySem.Str := s.2.1.1.2.2.2.2.2
@[reducible] noncomputable def a160 (s : T8) : PySem.Str := s.2.1.2.1.1.1.1.1
@[reducible] noncomputable def a161 (s : T8) : PySem.Str := s.2.1.2.1.1.1.1.2
@[reducible] noncomputable def a162 (s : T8) : PySem.Str := s.2.1.2.1.1.1.2.1
@[reducible] noncomputable def a163 (s : T8) : PySem.Str := s.2.1.2.1.1.1.2.2
@[reducible] noncomputable def a164 (s : T8) : PySem.Str := s.2.1.2.1.1.2.1.1
@[reducible] noncomputable def a165 (s : T8) : PySem.Str := s.2.1.2.1.1.2.1.2
@[reducible] noncomputable def a166 (s : T8) : PySem.Str := s.2.1.2.1.1.2.2.1
@[reducible] noncomputable def a167 (s : T8) : PySem.Str := s.2.1.2.1.1.2.2.2
@[reducible] noncomputable def a168 (s : T8) : PySem.Str := s.2.1.2.1.2.1.1.1
@[reducible] noncomputable def a169 (s : T8) : PySem.Str := s.2.1.2.1.2.1.1.2
@[reducible] noncomputable def a170 (s : T8) : PySem.Str := s.2.1.2.1.2.1.2.1
@[reducible] noncomputable def a171 (s : T8) : PySem.Str := s.2.1.2.1.2.1.2.2
@[reducible] noncomputable def a172 (s : T8) : PySem.Str := s.2.1.2.1.2.2.1.1
@[reducible] noncomputable def a173 (s : T8) : PySem.Str := s.2.1.2.1.2.2.1.2
@[reducible] noncomputable def a174 (s : T8) : PySem.Str := s.2.1.2.1.2.2.2.1
@[reducible] noncomputable def a175 (s : T8) : PySem.Str := s.2.1.2.1.2.2.2.2
@[reducible] noncomputable def a176 (s : T8) : PySem.Str := s.2.1.2.2.1.1.1.1
@[reducible] noncomputable def a177 (s : T8) : PySem.Str := s.2.1.2.2.1.1.1.2
@[reducible] noncomputable def a178 (s : T8) : PySem.Str := s.2.1.2.2.1.1.2.1
@[reducible] noncomputable def a179 (s : T8) : PySem.Str := s.2.1.2.2.1.1.2.2
@[reducible] noncomputable def a180 (s : T8) : PySem.Str := s.2.1.2.2.1.2.1.1
@[reducible] noncomputable def a181 (s : T8) : PySem.Str := s.2.1.2.2.1.2.1.2
@[reducible] noncomputable def a182 (s : T8) : PySem.Str := s.2.1.2.2.1.2.2.1
@[reducible] noncomputable def a183 (s : T8) : PySem.Str := s.2.1.2.2.1.2.2.2
@[reducible] noncomputable def a184 (s : T8) : PySem.Str := s.2.1.2.2.2.1.1.1
@[reducible] noncomputable def a185 (s : T8) : PySem.Str := s.2.1.2.2.2.1.1.2
@[reducible] noncomputable def a186 (s : T8) : PySem.Str := s.2.1.2.2.2.1.2.1
@[reducible] noncomputable def a187 (s : T8) : PySem.Str := s.2.1.2.2.2.1.2.2
@[reducible] noncomputable def a188 (s : T8) : PySem.Str := s.2.1.2.2.2.2.1.1
@[reducible] noncomputable def a189 (s : T8) : PySem.Str := s.2.1.2.2.2.2.1.2
@[reducible] noncomputable def a190 (s : T8) : PySem.Str := s.2.1.2.2.2.2.2.1
@[reducible] noncomputable def a191 (s : T8) : PySem.Str := s.2.1.2.2.2.2.2.2
@[reducible] noncomputable def a192 (s : T8) : PySem.Str := s.2.2.1.1.1.1.1.1
@[reducible] noncomputable def a193 (s : T8) : PySem.Str := s.2.2.1.1.1.1.1.2
@[reducible] noncomputable def a194 (s : T8) : PySem.Str := s.2.2.1.1.1.1.2.1
@[reducible] noncomputable def a195 (s : T8) : PySem.Str := s.2.2.1.1.1.1.2.2
@[reducible] noncomputable def a196 (s : T8) : PySem.Str := s.2.2.1.1.1.2.1.1
@[reducible] noncomputable def a197 (s : T8) : PySem.Str := s.2.2.1.1.1.2.1.2
@[reducible] noncomputable def a198 (s : T8) : PySem.Str := s.2.2.1.1.1.2.2.1
@[reducible] noncomputable def a199 (s : T8) : PySem.Str := s.2.2.1.1.1.2.2.2
@[reducible] noncomputable def a200 (s : T8) : PySem.Str := s.2.2.1.1.2.1.1.1
@[reducible] noncomputable def a201 (s : T8) : PySem.Str := s.2.2.1.1.2.1.1.2
/-- the given program (an inductive, so that no tactic makes a twin of the program for prF's sake) -/
inductive IsGiven : PySem.Program → Prop
  | mk : IsGiven PySem.Challenge.pw_pf0007_01
theorem IsGiven.of {p : PySem.Program} (e : p = PySem.Challenge.pw_pf0007_01) : IsGiven p := e ▸ .mk
noncomputable def prF : { F : PySem.Str → PySem.Str → PySem.Str → PySem.Str → PySem.Str → PySem.Str → PySem.Str → PySem.Str → PySem.Str → PySem.Str → PySem.Str → PySem.Str → PySem.Str → PySem.Str → PySem.Str → PySem.Str → PySem.Str → PySem.Str → PySem.Str → PySem.Str → PySem.Str → PySem.Str → PySem.Str → PySem.Str → PySem.Str → PySem.Str → PySem.Str → PySem.Str → PySem.Str → PySem.Str → PySem.Str → PySem.Str → PySem.Str → PySem.Str → PySem.Str → PySem.Str → PySem.Str → PySem.Str → PySem.Str → PySem.Str → PySem.Str → PySem.Str → PySem.Str → PySem.Str → PySem.Str → PySem.Str → PySem.Str → PySem.Str → PySem.Str → PySem.Str → PySem.Str → PySem.Str → PySem.Str → PySem.Str → PySem.Str → PySem.Str → PySem.Str → PySem.Str → PySem.Str → PySem.Str → PySem.Str → PySem.Str → PySem.Str → PySem.Str → PySem.Str → PySem.Str → PySem.Str → PySem.Str → PySem.Str → PySem.Str → PySem.Str → PySem.Str → PySem.Str → PySem.Str → PySem.Str → PySem.Str → PySem.Str → PySem.Str → PySem.Str → PySem.Str → PySem.Str → PySem.Str → PySem.Str → PySem.Str → PySem.Str → PySem.Str → PySem.Str → PySem.Str → PySem.Str → PySem.Str → PySem.Str → PySem.Str → PySem.Str → PySem.Str → PySem.Str → PySem.Str → PySem.Str → PySem.Str → PySem.Str → PySem.Str → PySem.Str → PySem.Str → PySem.Str → PySem.Str → PySem.Str → PySem.Str → PySem.Str → PySem.Str → PySem.Str → PySem.Str → PySem.Str → PySem.Str → PySem.Str → PySem.Str → PySem.Str → PySem.Str → PySem.Str → PySem.Str → PySem.Str → PySem.Str → PySem.Str → PySem.Str → PySem.Str → PySem.Str → PySem.Str → PySem.Str → PySem.Str → PySem.Str → PySem.Str → PySem.Str → PySem.Str → PySem.Str → PySem.Str → PySem.Str → PySem.Str → PySem.Str → PySem.Str → PySem.Str → PySem.Str → PySem.Str → PySem.Str → PySem.Str → PySem.Str → PySem.Str → PySem.Str → PySem.Str → PySem.Str → PySem.Str → PySem.Str → PySem.Str → PySem.Str → PySem.Str → PySem.Str → PySem.Str → PySem.Str → PySem.Str → PySem.Str → PySem.Str → PySem.Str → PySem.Str → PySem.Str → PySem.Str → PySem.Str → PySem.Str → PySem.Str → PySem.Str → PySem.Str → PySem.Str → PySem.Str → PySem.Str → PySem.Str → PySem.Str → PySem.Str → PySem.Str → PySem.Str → PySem.Str → PySem.Str → PySem.Str → PySem.Str → PySem.Str → PySem.Str → PySem.Str → PySem.Str → PySem.Str → PySem.Str → PySem.Str → PySem.Str → PySem.Str → PySem.Str → PySem.Str → PySem.Str → PySem.Str → PySem.Str → PySem.Str → PySem.Str → PySem.Str → PySem.Str → PySem.Str → PySem.Str → PySem.Str → PySem.Str → PySem.Str → PySem.Program // IsGiven (F (PySem.Str.ofString "__name__") (PySem.Str.ofString "basicplus.printing") (PySem.Str.ofString "page") (PySem.Str.ofString "out") (PySem.Str.ofString "append") (PySem.Str.ofString "row") (PySem.Str.ofString "") (PySem.Str.ofString "end_row") (PySem.Str.ofString "basicplus.values") (PySem.Str.ofString "MOST_EXPONENT") (PySem.Str.ofString "self") (PySem.Str.ofString "code") (PySem.Str.ofString "told") (PySem.Str.ofString "super") (PySem.Str.ofString "__init__") (PySem.Str.ofString "__class__") (PySem.Str.ofString "BasicError") (PySem.Str.ofString "Exception") (PySem.Str.ofString "number") (PySem.Str.ofString "many") (PySem.Str.ofString "bound") (PySem.Str.ofString "figures_of") (PySem.Str.ofString "places") (PySem.Str.ofString "unit") (PySem.Str.ofString "found") (PySem.Str.ofString "rest") (PySem.Str.ofString "rounded_by") (PySem.Str.ofString "coefficient") (PySem.Str.ofString "exponent") (PySem.Str.ofString "digits") (PySem.Str.ofString "size") (PySem.Str.ofString "abs") (PySem.Str.ofString "more") (PySem.Str.ofString "first") (PySem.Str.ofString "OV") (PySem.Str.ofString "made") (PySem.Str.ofString "basicplus.inputs") (PySem.Str.ofString "AGAIN") (PySem.Str.ofString "?Redo from start") (PySem.Str.ofString "BLANKS_inputs") (PySem.Str.ofString " \t") (PySem.Str.ofString "Waiting") (PySem.Str.ofString "text") (PySem.Str.ofString "at") (PySem.Str.ofString "len") (PySem.Str.ofString "blank_end") (PySem.Str.ofString "end") (PySem.Str.ofString "find") (PySem.Str.ofString "\"") (PySem.Str.ofString "quoted_field") (PySem.Str.ofString ",") (PySem.Str.ofString "rstrip") (PySem.Str.ofString "field_at") (PySem.Str.ofString "is_going") (PySem.Str.ofString "field") (PySem.Str.ofString "is_quoted") (PySem.Str.ofString "told_fields") (PySem.Str.ofString "kind") (PySem.Str.ofString "read_number") (PySem.Str.ofString "value_of_field") (PySem.Str.ofString "kinds") (PySem.Str.ofString "fields") (PySem.Str.ofString "zip") (PySem.Str.ofString "value") (PySem.Str.ofString "fitted_values") (PySem.Str.ofString "world") (PySem.Str.ofString "inputs") (PySem.Str.ofString "pop") (PySem.Str.ofString "next_input") (PySem.Str.ofString "prompt") (PySem.Str.ofString "is_marked") (PySem.Str.ofString "? ") (PySem.Str.ofString "write_prompt") (PySem.Str.ofString "ask_values") (PySem.Str.ofString "item") (PySem.Str.ofString "text_of_item") (PySem.Str.ofString "spot") (PySem.Str.ofString "data") (PySem.Str.ofString "OD") (PySem.Str.ofString "line") (PySem.Str.ofString "SN") (PySem.Str.ofString "read_item") (PySem.Str.ofString "basicplus.declread") (PySem.Str.ofString "here") (PySem.Str.ofString "sign") (PySem.Str.ofString "strip") (PySem.Str.ofString "pieces_of") (PySem.Str.ofString "basicplus.decimals") (PySem.Str.ofString "NOUGHT") (PySem.Str.ofString "MOST_FIGURES") (PySem.Str.ofString "MOST_POWER") (PySem.Str.ofString "BLANKS_decimals") (PySem.Str.ofString "begin") (PySem.Str.ofString "0") (PySem.Str.ofString "9") (PySem.Str.ofString "ord") (PySem.Str.ofString "run_of_figures") (PySem.Str.ofString "EeDd") (PySem.Str.ofString "-") (PySem.Str.ofString "+") (PySem.Str.ofString "min") (PySem.Str.ofString "exponent_at") (PySem.Str.ofString "is_below") (PySem.Str.ofString "ahead") (PySem.Str.ofString "behind") (PySem.Str.ofString ".") (PySem.Str.ofString "told_decimal") (PySem.Str.ofString "d_of_text") (PySem.Str.ofString "top") (PySem.Str.ofString "basicplus.rundo") (PySem.Str.ofString " ") (PySem.Str.ofString "number_by_text") (PySem.Str.ofString "basicplus.world") (PySem.Str.ofString "bits") (PySem.Str.ofString "most_steps") (PySem.Str.ofString "most_depth") (PySem.Str.ofString "room") (PySem.Str.ofString "names") (PySem.Str.ofString "arrays") (PySem.Str.ofString "fns") (PySem.Str.ofString "files") (PySem.Str.ofString "open") (PySem.Str.ofString "base") (PySem.Str.ofString "seed") (PySem.Str.ofString "steps") (PySem.Str.ofString "depth") (PySem.Str.ofString "handler") (PySem.Str.ofString "is_handling") (PySem.Str.ofString "error_line") (PySem.Str.ofString "error_code") (PySem.Str.ofString "is_traced") (PySem.Str.ofString "traces") (PySem.Str.ofString "common") (PySem.Str.ofString "World") (PySem.Str.ofString "law_pf0007_01") (PySem.Str.ofString "crate") (PySem.Str.ofString "turn") (PySem.Str.ofString "_law_next") (PySem.Str.ofString "tens") (PySem.Str.ofString "_law_bare") (PySem.Str.ofString "is_last") (PySem.Str.ofString "form") (PySem.Str.ofString "word") (PySem.Str.ofString "str") (PySem.Str.ofString "ab") (PySem.Str.ofString "a b") (PySem.Str.ofString "5x") (PySem.Str.ofString "written") (PySem.Str.ofString "gives") (PySem.Str.ofString "\"a,b:") (PySem.Str.ofString "a,b:") (PySem.Str.ofString "\"\"") (PySem.Str.ofString "\" x") (PySem.Str.ofString "\" ") (PySem.Str.ofString " \"") (PySem.Str.ofString "  ") (PySem.Str.ofString "_law_field") (PySem.Str.ofString "wrong") (PySem.Str.ofString "_law_read") (PySem.Str.ofString "script") (PySem.Str.ofString ".0") (PySem.Str.ofString "range") (PySem.Str.ofString "whole") (PySem.Str.ofString "decimal") (PySem.Str.ofString "enumerate") (PySem.Str.ofString "values") (PySem.Str.ofString "join") (PySem.Str.ofString "fit") (PySem.Str.ofString "good") (PySem.Str.ofString "7") (PySem.Str.ofString "is_right") (PySem.Str.ofString "left") (PySem.Str.ofString "heard") (PySem.Str.ofString "N") (PySem.Str.ofString "N? ") (PySem.Str.ofString "piece") (PySem.Str.ofString "index") (PySem.Str.ofString "fast") (PySem.Str.ofString "law") (PySem.Str.ofString "<module>") (PySem.Str.ofString "/claim/cut.py") (PySem.Str.ofString "__main__") (PySem.Str.ofString "type.__subclasses__.Exception.0") (PySem.Str.ofString "type.__subclasses__.Exception.n") (PySem.Str.ofString "__doc__") (PySem.Str.ofString "__package__") (PySem.Str.ofString "__loader__") (PySem.Str.ofString "__spec__") (PySem.Str.ofString "__annotations__") (PySem.Str.ofString "__builtins__") (PySem.Str.ofString "__file__") (PySem.Str.ofString "__cached__") (PySem.Str.ofString "__module__") (PySem.Str.ofString "__qualname__") (PySem.Str.ofString "__firstlineno__") (PySem.Str.ofString "__static_attributes__") (PySem.Str.ofString "__classcell__") (PySem.Str.ofString "BasicError.__init__") (PySem.Str.ofString "__weakref__") (PySem.Str.ofString "type.__subclasses__.Exception.1") (PySem.Str.ofString "World.__init__") (PySem.Str.ofString "__dict__")) } := by
  refine' ⟨_, IsGiven.of ?h⟩
  case h =>
    delta PySem.Challenge.pw_pf0007_01
    generalize PySem.Str.ofString "__name__" = x0
    generalize PySem.Str.ofString "basicplus.printing" = x1
    generalize PySem.Str.ofString "page" = x2
    generalize PySem.Str.ofString "out" = x3
    generalize PySem.Str.ofString "append" = x4
    generalize PySem.Str.ofString "row" = x5
    generalize PySem.Str.ofString "" = x6
    generalize PySem.Str.ofString "end_row" = x7
    generalize PySem.Str.ofString "basicplus.values" = x8
    generalize PySem.Str.ofString "MOST_EXPONENT" = x9
    generalize PySem.Str.ofString "self" = x10
    generalize PySem.Str.ofString "code" = x11
    generalize PySem.Str.ofString "told" = x12
    generalize PySem.Str.ofString "super" = x13
    generalize PySem.Str.ofString "__init__" = x14
    generalize PySem.Str.ofString "__class__" = x15
    generalize PySem.Str.ofString "BasicError" = x16
    generalize PySem.Str.ofString "Exception" = x17
    generalize PySem.Str.ofString "number" = x18
    generalize PySem.Str.ofString "many" = x19
    generalize PySem.Str.ofString "bound" = x20
    generalize PySem.Str.ofString "figures_of" = x21
    generalize PySem.Str.ofString "places" = x22
    generalize PySem.Str.ofString "unit" = x23
    generalize PySem.Str.ofString "found" = x24
    generalize PySem.Str.ofString "rest" = x25
    generalize PySem.Str.ofString "rounded_by" = x26
    generalize PySem.Str.ofString "coefficient" = x27
    generalize PySem.Str.ofString "exponent" = x28
    generalize PySem.Str.ofString "digits" = x29
    generalize PySem.Str.ofString "size" = x30
    generalize PySem.Str.ofString "abs" = x31
    generalize PySem.Str.ofString "more" = x32
    generalize PySem.Str.ofString "first" = x33
    generalize PySem.Str.ofString "OV" = x34
    generalize PySem.Str.ofString "made" = x35
    generalize PySem.Str.ofString "basicplus.inputs" = x36
    generalize PySem.Str.ofString "AGAIN" = x37
    generalize PySem.Str.ofString "?Redo from start" = x38
    generalize PySem.Str.ofString "BLANKS_inputs" = x39
    generalize PySem.Str.ofString " \t" = x40
    generalize PySem.Str.ofString "Waiting" = x41
    generalize PySem.Str.ofString "text" = x42
    generalize PySem.Str.ofString "at" = x43
    generalize PySem.Str.ofString "len" = x44
    generalize PySem.Str.ofString "blank_end" = x45
    generalize PySem.Str.ofString "end" = x46
    generalize PySem.Str.ofString "find" = x47
    generalize PySem.Str.ofString "\"" = x48
    generalize PySem.Str.ofString "quoted_field" = x49
    generalize PySem.Str.ofString "," = x50
    generalize PySem.Str.ofString "rstrip" = x51
    generalize PySem.Str.ofString "field_at" = x52
    generalize PySem.Str.ofString "is_going" = x53
    generalize PySem.Str.ofString "field" = x54
    generalize PySem.Str.ofString "is_quoted" = x55
    generalize PySem.Str.ofString "told_fields" = x56
    generalize PySem.Str.ofString "kind" = x57
    generalize PySem.Str.ofString "read_number" = x58
    generalize PySem.Str.ofString "value_of_field" = x59
    generalize PySem.Str.ofString "kinds" = x60
    generalize PySem.Str.ofString "fields" = x61
    generalize PySem.Str.ofString "zip" = x62
    generalize PySem.Str.ofString "value" = x63
    generalize PySem.Str.ofString "fitted_values" = x64
    generalize PySem.Str.ofString "world" = x65
    generalize PySem.Str.ofString "inputs" = x66
    generalize PySem.Str.ofString "pop" = x67
    generalize PySem.Str.ofString "next_input" = x68
    generalize PySem.Str.ofString "prompt" = x69
    generalize PySem.Str.ofString "is_marked" = x70
    generalize PySem.Str.ofString "? " = x71
    generalize PySem.Str.ofString "write_prompt" = x72
    generalize PySem.Str.ofString "ask_values" = x73
    generalize PySem.Str.ofString "item" = x74
    generalize PySem.Str.ofString "text_of_item" = x75
    generalize PySem.Str.ofString "spot" = x76
    generalize PySem.Str.ofString "data" = x77
    generalize PySem.Str.ofString "OD" = x78
    generalize PySem.Str.ofString "line" = x79
    generalize PySem.Str.ofString "SN" = x80
    generalize PySem.Str.ofString "read_item" = x81
    generalize PySem.Str.ofString "basicplus.declread" = x82
    generalize PySem.Str.ofString "here" = x83
    generalize PySem.Str.ofString "sign" = x84
    generalize PySem.Str.ofString "strip" = x85
    generalize PySem.Str.ofString "pieces_of" = x86
    generalize PySem.Str.ofString "basicplus.decimals" = x87
    generalize PySem.Str.ofString "NOUGHT" = x88
    generalize PySem.Str.ofString "MOST_FIGURES" = x89
    generalize PySem.Str.ofString "MOST_POWER" = x90
    generalize PySem.Str.ofString "BLANKS_decimals" = x91
    generalize PySem.Str.ofString "begin" = x92
    generalize PySem.Str.ofString "0" = x93
    generalize PySem.Str.ofString "9" = x94
    generalize PySem.Str.ofString "ord" = x95
    generalize PySem.Str.ofString "run_of_figures" = x96
    generalize PySem.Str.ofString "EeDd" = x97
    generalize PySem.Str.ofString "-" = x98
    generalize PySem.Str.ofString "+" = x99
    generalize PySem.Str.ofString "min" = x100
    generalize PySem.Str.ofString "exponent_at" = x101
    generalize PySem.Str.ofString "is_below" = x102
    generalize PySem.Str.ofString "ahead" = x103
    generalize PySem.Str.ofString "behind" = x104
    generalize PySem.Str.ofString "." = x105
    generalize PySem.Str.ofString "told_decimal" = x106
    generalize PySem.Str.ofString "d_of_text" = x107
    generalize PySem.Str.ofString "top" = x108
    generalize PySem.Str.ofString "basicplus.rundo" = x109
    generalize PySem.Str.ofString " " = x110
    generalize PySem.Str.ofString "number_by_text" = x111
    generalize PySem.Str.ofString "basicplus.world" = x112
    generalize PySem.Str.ofString "bits" = x113
    generalize PySem.Str.ofString "most_steps" = x114
    generalize PySem.Str.ofString "most_depth" = x115
    generalize PySem.Str.ofString "room" = x116
    generalize PySem.Str.ofString "names" = x117
    generalize PySem.Str.ofString "arrays" = x118
    generalize PySem.Str.ofString "fns" = x119
    generalize PySem.Str.ofString "files" = x120
    generalize PySem.Str.ofString "open" = x121
    generalize PySem.Str.ofString "base" = x122
    generalize PySem.Str.ofString "seed" = x123
    generalize PySem.Str.ofString "steps" = x124
    generalize PySem.Str.ofString "depth" = x125
    generalize PySem.Str.ofString "handler" = x126
    generalize PySem.Str.ofString "is_handling" = x127
    generalize PySem.Str.ofString "error_line" = x128
    generalize PySem.Str.ofString "error_code" = x129
    generalize PySem.Str.ofString "is_traced" = x130
    generalize PySem.Str.ofString "traces" = x131
    generalize PySem.Str.ofString "common" = x132
    generalize PySem.Str.ofString "World" = x133
    generalize PySem.Str.ofString "law_pf0007_01" = x134
    generalize PySem.Str.ofString "crate" = x135
    generalize PySem.Str.ofString "turn" = x136
    generalize PySem.Str.ofString "_law_next" = x137
    generalize PySem.Str.ofString "tens" = x138
    generalize PySem.Str.ofString "_law_bare" = x139
    generalize PySem.Str.ofString "is_last" = x140
    generalize PySem.Str.ofString "form" = x141
    generalize PySem.Str.ofString "word" = x142
    generalize PySem.Str.ofString "str" = x143
    generalize PySem.Str.ofString "ab" = x144
    generalize PySem.Str.ofString "a b" = x145
    generalize PySem.Str.ofString "5x" = x146
    generalize PySem.Str.ofString "written" = x147
    generalize PySem.Str.ofString "gives" = x148
    generalize PySem.Str.ofString "\"a,b:" = x149
    generalize PySem.Str.ofString "a,b:" = x150
    generalize PySem.Str.ofString "\"\"" = x151
    generalize PySem.Str.ofString "\" x" = x152
    generalize PySem.Str.ofString "\" " = x153
    generalize PySem.Str.ofString " \"" = x154
    generalize PySem.Str.ofString "  " = x155
    generalize PySem.Str.ofString "_law_field" = x156
    generalize PySem.Str.ofString "wrong" = x157
    generalize PySem.Str.ofString "_law_read" = x158
    generalize PySem.Str.ofString "script" = x159
    generalize PySem.Str.ofString ".0" = x160
    generalize PySem.Str.ofString "range" = x161
    generalize PySem.Str.ofString "whole" = x162
    generalize PySem.Str.ofString "decimal" = x163
    generalize PySem.Str.ofString "enumerate" = x164
    generalize PySem.Str.ofString "values" = x165
    generalize PySem.Str.ofString "join" = x166
    generalize PySem.Str.ofString "fit" = x167
    generalize PySem.Str.ofString "good" = x168
    generalize PySem.Str.ofString "7" = x169
    generalize PySem.Str.ofString "is_right" = x170
    generalize PySem.Str.ofString "left" = x171
    generalize PySem.Str.ofString "heard" = x172
    generalize PySem.Str.ofString "N" = x173
    generalize PySem.Str.ofString "N? " = x174
    generalize PySem.Str.ofString "piece" = x175
    generalize PySem.Str.ofString "index" = x176
    generalize PySem.Str.ofString "fast" = x177
    generalize PySem.Str.ofString "law" = x178
    generalize PySem.Str.ofString "<module>" = x179
    generalize PySem.Str.ofString "/claim/cut.py" = x180
    generalize PySem.Str.ofString "__main__" = x181
    generalize PySem.Str.ofString "type.__subclasses__.Exception.0" = x182
    generalize PySem.Str.ofString "type.__subclasses__.Exception.n" = x183
    generalize PySem.Str.ofString "__doc__" = x184
    generalize PySem.Str.ofString "__package__" = x185
    generalize PySem.Str.ofString "__loader__" = x186
    generalize PySem.Str.ofString "__spec__" = x187
    generalize PySem.Str.ofString "__annotations__" = x188
    generalize PySem.Str.ofString "__builtins__" = x189
    generalize PySem.Str.ofString "__file__" = x190
    generalize PySem.Str.ofString "__cached__" = x191
    generalize PySem.Str.ofString "__module__" = x192
    generalize PySem.Str.ofString "__qualname__" = x193
    generalize PySem.Str.ofString "__firstlineno__" = x194
    generalize PySem.Str.ofString "__static_attributes__" = x195
    generalize PySem.Str.ofString "__classcell__" = x196
    generalize PySem.Str.ofString "BasicError.__init__" = x197
    generalize PySem.Str.ofString "__weakref__" = x198
    generalize PySem.Str.ofString "type.__subclasses__.Exception.1" = x199
    generalize PySem.Str.ofString "World.__init__" = x200
    generalize PySem.Str.ofString "__dict__" = x201
    exact rfl
noncomputable def prog (s : T8) : Program := prF.1 (a0 s) (a1 s) (a2 s) (a3 s) (a4 s) (a5 s) (a6 s) (a7 s) (a8 s) (a9 s) (a10 s) (a11 s) (a12 s) (a13 s) (a14 s) (a15 s) (a16 s) (a17 s) (a18 s) (a19 s) (a20 s) (a21 s) (a22 s) (a23 s) (a24 s) (a25 s) (a26 s) (a27 s) (a28 s) (a29 s) (a30 s) (a31 s) (a32 s) (a33 s) (a34 s) (a35 s) (a36 s) (a37 s) (a38 s) (a39 s) (a40 s) (a41 s) (a42 s) (a43 s) (a44 s) (a45 s) (a46 s) (a47 s) (a48 s) (a49 s) (a50 s) (a51 s) (a52 s) (a53 s) (a54 s) (a55 s) (a56 s) (a57 s) (a58 s) (a59 s) (a60 s) (a61 s) (a62 s) (a63 s) (a64 s) (a65 s) (a66 s) (a67 s) (a68 s) (a69 s) (a70 s) (a71 s) (a72 s) (a73 s) (a74 s) (a75 s) (a76 s) (a77 s) (a78 s) (a79 s) (a80 s) (a81 s) (a82 s) (a83 s) (a84 s) (a85 s) (a86 s) (a87 s) (a88 s) (a89 s) (a90 s) (a91 s) (a92 s) (a93 s) (a94 s) (a95 s) (a96 s) (a97 s) (a98 s) (a99 s) (a100 s) (a101 s) (a102 s) (a103 s) (a104 s) (a105 s) (a106 s) (a107 s) (a108 s) (a109 s) (a110 s) (a111 s) (a112 s) (a113 s) (a114 s) (a115 s) (a116 s) (a117 s) (a118 s) (a119 s) (a120 s) (a121 s) (a122 s) (a123 s) (a124 s) (a125 s) (a126 s) (a127 s) (a128 s) (a129 s) (a130 s) (a131 s) (a132 s) (a133 s) (a134 s) (a135 s) (a136 s) (a137 s) (a138 s) (a139 s) (a140 s) (a141 s) (a142 s) (a143 s) (a144 s) (a145 s) (a146 s) (a147 s) (a148 s) (a149 s) (a150 s) (a151 s) (a152 s) (a153 s) (a154 s) (a155 s) (a156 s) (a157 s) (a158 s) (a159 s) (a160 s) (a161 s) (a162 s) (a163 s) (a164 s) (a165 s) (a166 s) (a167 s) (a168 s) (a169 s) (a170 s) (a171 s) (a172 s) (a173 s) (a174 s) (a175 s) (a176 s) (a177 s) (a178 s) (a179 s) (a180 s) (a181 s) (a182 s) (a183 s) (a184 s) (a185 s) (a186 s) (a187 s) (a188 s) (a189 s) (a190 s) (a191 s) (a192 s) (a193 s) (a194 s) (a195 s) (a196 s) (a197 s) (a198 s) (a199 s) (a200 s) (a201 s)
def nthS : List PySem.Stmt → Nat → PySem.Stmt
  | [], _ => .Pass ⟨0, 0, 0, 0⟩
  | x :: _, 0 => x
  | _ :: r, n + 1 => nthS r n
def fdA : PySem.Stmt → PySem.Arguments
  | .FunctionDef _ a _ _ _ _ _ _ _ _ => a
  | _ => ⟨[], [], none, [], [], none, []⟩
def fdB : PySem.Stmt → List PySem.Stmt
  | .FunctionDef _ _ b _ _ _ _ _ _ _ => b
  | _ => []
def fdS : PySem.Stmt → PySem.Scope
  | .FunctionDef _ _ _ _ _ _ s _ _ _ => s
  | _ => ⟨.module, [], false, false, []⟩
def fdP : PySem.Stmt → PySem.Pos
  | .FunctionDef _ _ _ _ _ _ _ _ _ p => p
  | _ => ⟨0, 0, 0, 0⟩
noncomputable def inC : PySem.Stmt → PySem.Stmt
  | .ClassDef _ _ _ b _ _ _ _ _ _ _ => nthS b 0
  | x => x
noncomputable def stA (s : T8) (i : Nat) : PySem.Stmt := nthS (prog s).main.body i
def st0 (i : Nat) : PySem.Stmt := nthS PySem.Challenge.pw_pf0007_01.main.body i
noncomputable def tA1x : { x : PySem.Arguments // x = fdA (st0 1) } := by
  refine' ⟨_, ?h⟩
  case h =>
    conv => rhs; whnf
@[reducible] noncomputable def tA1 : PySem.Arguments := tA1x.1
noncomputable def tB1x : { x : List PySem.Stmt // x = fdB (st0 1) } := by
  refine' ⟨_, ?h⟩
  case h =>
    conv => rhs; whnf
@[reducible] noncomputable def tB1 : List PySem.Stmt := tB1x.1
noncomputable def tS1x : { x : PySem.Scope // x = fdS (st0 1) } := by
  refine' ⟨_, ?h⟩
  case h =>
    conv => rhs; whnf
@[reducible] noncomputable def tS1 : PySem.Scope := tS1x.1
noncomputable def tA4x : { x : PySem.Arguments // x = fdA (inC (st0 4)) } := by
  refine' ⟨_, ?h⟩
  case h =>
    conv => rhs; whnf
@[reducible] noncomputable def tA4 : PySem.Arguments := tA4x.1
noncomputable def tB4x : { x : List PySem.Stmt // x = fdB (inC (st0 4)) } := by
  refine' ⟨_, ?h⟩
  case h =>
    conv => rhs; whnf
@[reducible] noncomputable def tB4 : List PySem.Stmt := tB4x.1
noncomputable def tS4x : { x : PySem.Scope // x = fdS (inC (st0 4)) } := by
  refine' ⟨_, ?h⟩
  case h =>
    conv => rhs; whnf
@[reducible] noncomputable def tS4 : PySem.Scope := tS4x.1
noncomputable def tA5x : { x : PySem.Arguments // x = fdA (st0 5) } := by
  refine' ⟨_, ?h⟩
  case h =>
    conv => rhs; whnf
@[reducible] noncomputable def tA5 : PySem.Arguments := tA5x.1
noncomputable def tB5x : { x : List PySem.Stmt // x = fdB (st0 5) } := by
  refine' ⟨_, ?h⟩
  case h =>
    conv => rhs; whnf
@[reducible] noncomputable def tB5 : List PySem.Stmt := tB5x.1
noncomputable def tS5x : { x : PySem.Scope // x = fdS (st0 5) } := by
  refine' ⟨_, ?h⟩
  case h =>
    conv => rhs; whnf
@[reducible] noncomputable def tS5 : PySem.Scope := tS5x.1
noncomputable def tA6x : { x : PySem.Arguments // x = fdA (st0 6) } := by
  refine' ⟨_, ?h⟩
  case h =>
    conv => rhs; whnf
@[reducible] noncomputable def tA6 : PySem.Arguments := tA6x.1
noncomputable def tB6x : { x : List PySem.Stmt // x = fdB (st0 6) } := by
  refine' ⟨_, ?h⟩
  case h =>
    conv => rhs; whnf
@[reducible] noncomputable def tB6 : List PySem.Stmt := tB6x.1
noncomputable def tS6x : { x : PySem.Scope // x = fdS (st0 6) } := by
  refine' ⟨_, ?h⟩
  case h =>
    conv => rhs; whnf
@[reducible] noncomputable def tS6 : PySem.Scope := tS6x.1
noncomputable def tA7x : { x : PySem.Arguments // x = fdA (st0 7) } := by
  refine' ⟨_, ?h⟩
  case h =>
    conv => rhs; whnf
@[reducible] noncomputable def tA7 : PySem.Arguments := tA7x.1
noncomputable def tB7x : { x : List PySem.Stmt // x = fdB (st0 7) } := by
  refine' ⟨_, ?h⟩
  case h =>
    conv => rhs; whnf
@[reducible] noncomputable def tB7 : List PySem.Stmt := tB7x.1
noncomputable def tS7x : { x : PySem.Scope // x = fdS (st0 7) } := by
  refine' ⟨_, ?h⟩
  case h =>
    conv => rhs; whnf
@[reducible] noncomputable def tS7 : PySem.Scope := tS7x.1
noncomputable def tA12x : { x : PySem.Arguments // x = fdA (st0 12) } := by
  refine' ⟨_, ?h⟩
  case h =>
    conv => rhs; whnf
@[reducible] noncomputable def tA12 : PySem.Arguments := tA12x.1
noncomputable def tB12x : { x : List PySem.Stmt // x = fdB (st0 12) } := by
  refine' ⟨_, ?h⟩
  case h =>
    conv => rhs; whnf
@[reducible] noncomputable def tB12 : List PySem.Stmt := tB12x.1
noncomputable def tS12x : { x : PySem.Scope // x = fdS (st0 12) } := by
  refine' ⟨_, ?h⟩
  case h =>
    conv => rhs; whnf
@[reducible] noncomputable def tS12 : PySem.Scope := tS12x.1
noncomputable def tA13x : { x : PySem.Arguments // x = fdA (st0 13) } := by
  refine' ⟨_, ?h⟩
  case h =>
    conv => rhs; whnf
@[reducible] noncomputable def tA13 : PySem.Arguments := tA13x.1
noncomputable def tB13x : { x : List PySem.Stmt // x = fdB (st0 13) } := by
  refine' ⟨_, ?h⟩
  case h =>
    conv => rhs; whnf
@[reducible] noncomputable def tB13 : List PySem.Stmt := tB13x.1
noncomputable def tS13x : { x : PySem.Scope // x = fdS (st0 13) } := by
  refine' ⟨_, ?h⟩
  case h =>
    conv => rhs; whnf
@[reducible] noncomputable def tS13 : PySem.Scope := tS13x.1
noncomputable def tA14x : { x : PySem.Arguments // x = fdA (st0 14) } := by
  refine' ⟨_, ?h⟩
  case h =>
    conv => rhs; whnf
@[reducible] noncomputable def tA14 : PySem.Arguments := tA14x.1
noncomputable def tB14x : { x : List PySem.Stmt // x = fdB (st0 14) } := by
  refine' ⟨_, ?h⟩
  case h =>
    conv => rhs; whnf
@[reducible] noncomputable def tB14 : List PySem.Stmt := tB14x.1
noncomputable def tS14x : { x : PySem.Scope // x = fdS (st0 14) } := by
  refine' ⟨_, ?h⟩
  case h =>
    conv => rhs; whnf
@[reducible] noncomputable def tS14 : PySem.Scope := tS14x.1
noncomputable def tA15x : { x : PySem.Arguments // x = fdA (st0 15) } := by
  refine' ⟨_, ?h⟩
  case h =>
    conv => rhs; whnf
@[reducible] noncomputable def tA15 : PySem.Arguments := tA15x.1
noncomputable def tB15x : { x : List PySem.Stmt // x = fdB (st0 15) } := by
  refine' ⟨_, ?h⟩
  case h =>
    conv => rhs; whnf
@[reducible] noncomputable def tB15 : List PySem.Stmt := tB15x.1
noncomputable def tS15x : { x : PySem.Scope // x = fdS (st0 15) } := by
  refine' ⟨_, ?h⟩
  case h =>
    conv => rhs; whnf
@[reducible] noncomputable def tS15 : PySem.Scope := tS15x.1
noncomputable def tA16x : { x : PySem.Arguments // x = fdA (st0 16) } := by
  refine' ⟨_, ?h⟩
  case h =>
    conv => rhs; whnf
@[reducible] noncomputable def tA16 : PySem.Arguments := tA16x.1
noncomputable def tB16x : { x : List PySem.Stmt // x = fdB (st0 16) } := by
  refine' ⟨_, ?h⟩
  case h =>
    conv => rhs; whnf
@[reducible] noncomputable def tB16 : List PySem.Stmt := tB16x.1
noncomputable def tS16x : { x : PySem.Scope // x = fdS (st0 16) } := by
  refine' ⟨_, ?h⟩
  case h =>
    conv => rhs; whnf
@[reducible] noncomputable def tS16 : PySem.Scope := tS16x.1
noncomputable def tA17x : { x : PySem.Arguments // x = fdA (st0 17) } := by
  refine' ⟨_, ?h⟩
  case h =>
    conv => rhs; whnf
@[reducible] noncomputable def tA17 : PySem.Arguments := tA17x.1
noncomputable def tB17x : { x : List PySem.Stmt // x = fdB (st0 17) } := by
  refine' ⟨_, ?h⟩
  case h =>
    conv => rhs; whnf
@[reducible] noncomputable def tB17 : List PySem.Stmt := tB17x.1
noncomputable def tS17x : { x : PySem.Scope // x = fdS (st0 17) } := by
  refine' ⟨_, ?h⟩
  case h =>
    conv => rhs; whnf
@[reducible] noncomputable def tS17 : PySem.Scope := tS17x.1
noncomputable def tA18x : { x : PySem.Arguments // x = fdA (st0 18) } := by
  refine' ⟨_, ?h⟩
  case h =>
    conv => rhs; whnf
@[reducible] noncomputable def tA18 : PySem.Arguments := tA18x.1
noncomputable def tB18x : { x : List PySem.Stmt // x = fdB (st0 18) } := by
  refine' ⟨_, ?h⟩
  case h =>
    conv => rhs; whnf
@[reducible] noncomputable def tB18 : List PySem.Stmt := tB18x.1
noncomputable def tS18x : { x : PySem.Scope // x = fdS (st0 18) } := by
  refine' ⟨_, ?h⟩
  case h =>
    conv => rhs; whnf
@[reducible] noncomputable def tS18 : PySem.Scope := tS18x.1
noncomputable def tA19x : { x : PySem.Arguments // x = fdA (st0 19) } := by
  refine' ⟨_, ?h⟩
  case h =>
    conv => rhs; whnf
@[reducible] noncomputable def tA19 : PySem.Arguments := tA19x.1
noncomputable def tB19x : { x : List PySem.Stmt // x = fdB (st0 19) } := by
  refine' ⟨_, ?h⟩
  case h =>
    conv => rhs; whnf
@[reducible] noncomputable def tB19 : List PySem.Stmt := tB19x.1
noncomputable def tS19x : { x : PySem.Scope // x = fdS (st0 19) } := by
  refine' ⟨_, ?h⟩
  case h =>
    conv => rhs; whnf
@[reducible] noncomputable def tS19 : PySem.Scope := tS19x.1
noncomputable def tA20x : { x : PySem.Arguments // x = fdA (st0 20) } := by
  refine' ⟨_, ?h⟩
  case h =>
    conv => rhs; whnf
@[reducible] noncomputable def tA20 : PySem.Arguments := tA20x.1
noncomputable def tB20x : { x : List PySem.Stmt // x = fdB (st0 20) } := by
  refine' ⟨_, ?h⟩
  case h =>
    conv => rhs; whnf
@[reducible] noncomputable def tB20 : List PySem.Stmt := tB20x.1
noncomputable def tS20x : { x : PySem.Scope // x = fdS (st0 20) } := by
  refine' ⟨_, ?h⟩
  case h =>
    conv => rhs; whnf
@[reducible] noncomputable def tS20 : PySem.Scope := tS20x.1
noncomputable def tA21x : { x : PySem.Arguments // x = fdA (st0 21) } := by
  refine' ⟨_, ?h⟩
  case h =>
    conv => rhs; whnf
@[reducible] noncomputable def tA21 : PySem.Arguments := tA21x.1
noncomputable def tB21x : { x : List PySem.Stmt // x = fdB (st0 21) } := by
  refine' ⟨_, ?h⟩
  case h =>
    conv => rhs; whnf
@[reducible] noncomputable def tB21 : List PySem.Stmt := tB21x.1
noncomputable def tS21x : { x : PySem.Scope // x = fdS (st0 21) } := by
  refine' ⟨_, ?h⟩
  case h =>
    conv => rhs; whnf
@[reducible] noncomputable def tS21 : PySem.Scope := tS21x.1
noncomputable def tA22x : { x : PySem.Arguments // x = fdA (st0 22) } := by
  refine' ⟨_, ?h⟩
  case h =>
    conv => rhs; whnf
@[reducible] noncomputable def tA22 : PySem.Arguments := tA22x.1
noncomputable def tB22x : { x : List PySem.Stmt // x = fdB (st0 22) } := by
  refine' ⟨_, ?h⟩
  case h =>
    conv => rhs; whnf
@[reducible] noncomputable def tB22 : List PySem.Stmt := tB22x.1
noncomputable def tS22x : { x : PySem.Scope // x = fdS (st0 22) } := by
  refine' ⟨_, ?h⟩
  case h =>
    conv => rhs; whnf
@[reducible] noncomputable def tS22 : PySem.Scope := tS22x.1
noncomputable def tA24x : { x : PySem.Arguments // x = fdA (st0 24) } := by
  refine' ⟨_, ?h⟩
  case h =>
    conv => rhs; whnf
@[reducible] noncomputable def tA24 : PySem.Arguments := tA24x.1
noncomputable def tB24x : { x : List PySem.Stmt // x = fdB (st0 24) } := by
  refine' ⟨_, ?h⟩
  case h =>
    conv => rhs; whnf
@[reducible] noncomputable def tB24 : List PySem.Stmt := tB24x.1
noncomputable def tS24x : { x : PySem.Scope // x = fdS (st0 24) } := by
  refine' ⟨_, ?h⟩
  case h =>
    conv => rhs; whnf
@[reducible] noncomputable def tS24 : PySem.Scope := tS24x.1
noncomputable def tA30x : { x : PySem.Arguments // x = fdA (st0 30) } := by
  refine' ⟨_, ?h⟩
  case h =>
    conv => rhs; whnf
@[reducible] noncomputable def tA30 : PySem.Arguments := tA30x.1
noncomputable def tB30x : { x : List PySem.Stmt // x = fdB (st0 30) } := by
  refine' ⟨_, ?h⟩
  case h =>
    conv => rhs; whnf
@[reducible] noncomputable def tB30 : List PySem.Stmt := tB30x.1
noncomputable def tS30x : { x : PySem.Scope // x = fdS (st0 30) } := by
  refine' ⟨_, ?h⟩
  case h =>
    conv => rhs; whnf
@[reducible] noncomputable def tS30 : PySem.Scope := tS30x.1
noncomputable def tA31x : { x : PySem.Arguments // x = fdA (st0 31) } := by
  refine' ⟨_, ?h⟩
  case h =>
    conv => rhs; whnf
@[reducible] noncomputable def tA31 : PySem.Arguments := tA31x.1
noncomputable def tB31x : { x : List PySem.Stmt // x = fdB (st0 31) } := by
  refine' ⟨_, ?h⟩
  case h =>
    conv => rhs; whnf
@[reducible] noncomputable def tB31 : List PySem.Stmt := tB31x.1
noncomputable def tS31x : { x : PySem.Scope // x = fdS (st0 31) } := by
  refine' ⟨_, ?h⟩
  case h =>
    conv => rhs; whnf
@[reducible] noncomputable def tS31 : PySem.Scope := tS31x.1
noncomputable def tA32x : { x : PySem.Arguments // x = fdA (st0 32) } := by
  refine' ⟨_, ?h⟩
  case h =>
    conv => rhs; whnf
@[reducible] noncomputable def tA32 : PySem.Arguments := tA32x.1
noncomputable def tB32x : { x : List PySem.Stmt // x = fdB (st0 32) } := by
  refine' ⟨_, ?h⟩
  case h =>
    conv => rhs; whnf
@[reducible] noncomputable def tB32 : List PySem.Stmt := tB32x.1
noncomputable def tS32x : { x : PySem.Scope // x = fdS (st0 32) } := by
  refine' ⟨_, ?h⟩
  case h =>
    conv => rhs; whnf
@[reducible] noncomputable def tS32 : PySem.Scope := tS32x.1
noncomputable def tA33x : { x : PySem.Arguments // x = fdA (st0 33) } := by
  refine' ⟨_, ?h⟩
  case h =>
    conv => rhs; whnf
@[reducible] noncomputable def tA33 : PySem.Arguments := tA33x.1
noncomputable def tB33x : { x : List PySem.Stmt // x = fdB (st0 33) } := by
  refine' ⟨_, ?h⟩
  case h =>
    conv => rhs; whnf
@[reducible] noncomputable def tB33 : List PySem.Stmt := tB33x.1
noncomputable def tS33x : { x : PySem.Scope // x = fdS (st0 33) } := by
  refine' ⟨_, ?h⟩
  case h =>
    conv => rhs; whnf
@[reducible] noncomputable def tS33 : PySem.Scope := tS33x.1
noncomputable def tA35x : { x : PySem.Arguments // x = fdA (st0 35) } := by
  refine' ⟨_, ?h⟩
  case h =>
    conv => rhs; whnf
@[reducible] noncomputable def tA35 : PySem.Arguments := tA35x.1
noncomputable def tB35x : { x : List PySem.Stmt // x = fdB (st0 35) } := by
  refine' ⟨_, ?h⟩
  case h =>
    conv => rhs; whnf
@[reducible] noncomputable def tB35 : List PySem.Stmt := tB35x.1
noncomputable def tS35x : { x : PySem.Scope // x = fdS (st0 35) } := by
  refine' ⟨_, ?h⟩
  case h =>
    conv => rhs; whnf
@[reducible] noncomputable def tS35 : PySem.Scope := tS35x.1
noncomputable def tA37x : { x : PySem.Arguments // x = fdA (inC (st0 37)) } := by
  refine' ⟨_, ?h⟩
  case h =>
    conv => rhs; whnf
@[reducible] noncomputable def tA37 : PySem.Arguments := tA37x.1
noncomputable def tB37x : { x : List PySem.Stmt // x = fdB (inC (st0 37)) } := by
  refine' ⟨_, ?h⟩
  case h =>
    conv => rhs; whnf
@[reducible] noncomputable def tB37 : List PySem.Stmt := tB37x.1
noncomputable def tS37x : { x : PySem.Scope // x = fdS (inC (st0 37)) } := by
  refine' ⟨_, ?h⟩
  case h =>
    conv => rhs; whnf
@[reducible] noncomputable def tS37 : PySem.Scope := tS37x.1
noncomputable def tA39x : { x : PySem.Arguments // x = fdA (st0 39) } := by
  refine' ⟨_, ?h⟩
  case h =>
    conv => rhs; whnf
@[reducible] noncomputable def tA39 : PySem.Arguments := tA39x.1
noncomputable def tB39x : { x : List PySem.Stmt // x = fdB (st0 39) } := by
  refine' ⟨_, ?h⟩
  case h =>
    conv => rhs; whnf
@[reducible] noncomputable def tB39 : List PySem.Stmt := tB39x.1
noncomputable def tS39x : { x : PySem.Scope // x = fdS (st0 39) } := by
  refine' ⟨_, ?h⟩
  case h =>
    conv => rhs; whnf
@[reducible] noncomputable def tS39 : PySem.Scope := tS39x.1
noncomputable def tA40x : { x : PySem.Arguments // x = fdA (st0 40) } := by
  refine' ⟨_, ?h⟩
  case h =>
    conv => rhs; whnf
@[reducible] noncomputable def tA40 : PySem.Arguments := tA40x.1
noncomputable def tB40x : { x : List PySem.Stmt // x = fdB (st0 40) } := by
  refine' ⟨_, ?h⟩
  case h =>
    conv => rhs; whnf
@[reducible] noncomputable def tB40 : List PySem.Stmt := tB40x.1
noncomputable def tS40x : { x : PySem.Scope // x = fdS (st0 40) } := by
  refine' ⟨_, ?h⟩
  case h =>
    conv => rhs; whnf
@[reducible] noncomputable def tS40 : PySem.Scope := tS40x.1
noncomputable def tA41x : { x : PySem.Arguments // x = fdA (st0 41) } := by
  refine' ⟨_, ?h⟩
  case h =>
    conv => rhs; whnf
@[reducible] noncomputable def tA41 : PySem.Arguments := tA41x.1
noncomputable def tB41x : { x : List PySem.Stmt // x = fdB (st0 41) } := by
  refine' ⟨_, ?h⟩
  case h =>
    conv => rhs; whnf
@[reducible] noncomputable def tB41 : List PySem.Stmt := tB41x.1
noncomputable def tS41x : { x : PySem.Scope // x = fdS (st0 41) } := by
  refine' ⟨_, ?h⟩
  case h =>
    conv => rhs; whnf
@[reducible] noncomputable def tS41 : PySem.Scope := tS41x.1
noncomputable def tA42x : { x : PySem.Arguments // x = fdA (st0 42) } := by
  refine' ⟨_, ?h⟩
  case h =>
    conv => rhs; whnf
@[reducible] noncomputable def tA42 : PySem.Arguments := tA42x.1
noncomputable def tB42x : { x : List PySem.Stmt // x = fdB (st0 42) } := by
  refine' ⟨_, ?h⟩
  case h =>
    conv => rhs; whnf
@[reducible] noncomputable def tB42 : List PySem.Stmt := tB42x.1
noncomputable def tS42x : { x : PySem.Scope // x = fdS (st0 42) } := by
  refine' ⟨_, ?h⟩
  case h =>
    conv => rhs; whnf
@[reducible] noncomputable def tS42 : PySem.Scope := tS42x.1
noncomputable def tA43x : { x : PySem.Arguments // x = fdA (st0 43) } := by
  refine' ⟨_, ?h⟩
  case h =>
    conv => rhs; whnf
@[reducible] noncomputable def tA43 : PySem.Arguments := tA43x.1
noncomputable def tB43x : { x : List PySem.Stmt // x = fdB (st0 43) } := by
  refine' ⟨_, ?h⟩
  case h =>
    conv => rhs; whnf
@[reducible] noncomputable def tB43 : List PySem.Stmt := tB43x.1
noncomputable def tS43x : { x : PySem.Scope // x = fdS (st0 43) } := by
  refine' ⟨_, ?h⟩
  case h =>
    conv => rhs; whnf
@[reducible] noncomputable def tS43 : PySem.Scope := tS43x.1
noncomputable def d0 (s : T8) : PySem.Stmt := stA s 0
noncomputable def d1 (s : T8) : PySem.Arguments := fdA (stA s 1)
noncomputable def d2 (s : T8) : List PySem.Stmt := fdB (stA s 1)
noncomputable def d3 (s : T8) : PySem.Scope := fdS (stA s 1)
noncomputable def d4 (s : T8) : PySem.Stmt := stA s 1
noncomputable def d5 (s : T8) : PySem.Stmt := stA s 2
noncomputable def d6 (s : T8) : PySem.Stmt := stA s 3
noncomputable def d7 (s : T8) : PySem.Arguments := fdA (inC (stA s 4))
noncomputable def d8 (s : T8) : List PySem.Stmt := fdB (inC (stA s 4))
noncomputable def d9 (s : T8) : PySem.Scope := fdS (inC (stA s 4))
noncomputable def d10 (s : T8) : PySem.Stmt := stA s 4
noncomputable def d11 (s : T8) : PySem.Arguments := fdA (stA s 5)
noncomputable def d12 (s : T8) : List PySem.Stmt := fdB (stA s 5)
noncomputable def d13 (s : T8) : PySem.Scope := fdS (stA s 5)
noncomputable def d14 (s : T8) : PySem.Stmt := stA s 5
noncomputable def d15 (s : T8) : PySem.Arguments := fdA (stA s 6)
noncomputable def d16 (s : T8) : List PySem.Stmt := fdB (stA s 6)
noncomputable def d17 (s : T8) : PySem.Scope := fdS (stA s 6)
noncomputable def d18 (s : T8) : PySem.Stmt := stA s 6
noncomputable def d19 (s : T8) : PySem.Arguments := fdA (stA s 7)
noncomputable def d20 (s : T8) : List PySem.Stmt := fdB (stA s 7)
noncomputable def d22 (s : T8) : PySem.Scope := fdS (stA s 7)
noncomputable def d23 (s : T8) : PySem.Stmt := stA s 7
noncomputable def d24 (s : T8) : PySem.Stmt := stA s 8
noncomputable def d25 (s : T8) : PySem.Stmt := stA s 9
noncomputable def d26 (s : T8) : PySem.Stmt := stA s 10
noncomputable def d27 (s : T8) : PySem.Stmt := stA s 11
noncomputable def d28 (s : T8) : PySem.Arguments := fdA (stA s 12)
noncomputable def d29 (s : T8) : List PySem.Stmt := fdB (stA s 12)
noncomputable def d31 (s : T8) : PySem.Scope := fdS (stA s 12)
noncomputable def d32 (s : T8) : PySem.Stmt := stA s 12
noncomputable def d33 (s : T8) : PySem.Arguments := fdA (stA s 13)
noncomputable def d34 (s : T8) : List PySem.Stmt := fdB (stA s 13)
noncomputable def d35 (s : T8) : PySem.Scope := fdS (stA s 13)
noncomputable def d36 (s : T8) : PySem.Stmt := stA s 13
noncomputable def d37 (s : T8) : PySem.Arguments := fdA (stA s 14)
noncomputable def d38 (s : T8) : List PySem.Stmt := fdB (stA s 14)
noncomputable def d39 (s : T8) : PySem.Scope := fdS (stA s 14)
noncomputable def d40 (s : T8) : PySem.Stmt := stA s 14
noncomputable def d41 (s : T8) : PySem.Arguments := fdA (stA s 15)
noncomputable def d42 (s : T8) : List PySem.Stmt := fdB (stA s 15)
noncomputable def d44 (s : T8) : PySem.Scope := fdS (stA s 15)
noncomputable def d45 (s : T8) : PySem.Stmt := stA s 15
noncomputable def d46 (s : T8) : PySem.Arguments := fdA (stA s 16)
noncomputable def d47 (s : T8) : List PySem.Stmt := fdB (stA s 16)
noncomputable def d48 (s : T8) : PySem.Scope := fdS (stA s 16)
noncomputable def d49 (s : T8) : PySem.Stmt := stA s 16
noncomputable def d50 (s : T8) : PySem.Arguments := fdA (stA s 17)
noncomputable def d51 (s : T8) : List PySem.Stmt := fdB (stA s 17)
noncomputable def d53 (s : T8) : PySem.Scope := fdS (stA s 17)
noncomputable def d54 (s : T8) : PySem.Stmt := stA s 17
noncomputable def d55 (s : T8) : PySem.Arguments := fdA (stA s 18)
noncomputable def d56 (s : T8) : List PySem.Stmt := fdB (stA s 18)
noncomputable def d57 (s : T8) : PySem.Scope := fdS (stA s 18)
noncomputable def d58 (s : T8) : PySem.Stmt := stA s 18
noncomputable def d59 (s : T8) : PySem.Arguments := fdA (stA s 19)
noncomputable def d60 (s : T8) : List PySem.Stmt := fdB (stA s 19)
noncomputable def d62 (s : T8) : PySem.Scope := fdS (stA s 19)
noncomputable def d63 (s : T8) : PySem.Stmt := stA s 19
noncomputable def d64 (s : T8) : PySem.Arguments := fdA (stA s 20)
noncomputable def d65 (s : T8) : List PySem.Stmt := fdB (stA s 20)
noncomputable def d66 (s : T8) : PySem.Scope := fdS (stA s 20)
noncomputable def d67 (s : T8) : PySem.Stmt := stA s 20
noncomputable def d68 (s : T8) : PySem.Arguments := fdA (stA s 21)
noncomputable def d69 (s : T8) : List PySem.Stmt := fdB (stA s 21)
noncomputable def d70 (s : T8) : PySem.Scope := fdS (stA s 21)
noncomputable def d71 (s : T8) : PySem.Stmt := stA s 21
noncomputable def d72 (s : T8) : PySem.Arguments := fdA (stA s 22)
noncomputable def d73 (s : T8) : List PySem.Stmt := fdB (stA s 22)
noncomputable def d74 (s : T8) : PySem.Scope := fdS (stA s 22)
noncomputable def d75 (s : T8) : PySem.Stmt := stA s 22
noncomputable def d76 (s : T8) : PySem.Stmt := stA s 23
noncomputable def d77 (s : T8) : PySem.Arguments := fdA (stA s 24)
noncomputable def d78 (s : T8) : List PySem.Stmt := fdB (stA s 24)
noncomputable def d79 (s : T8) : PySem.Scope := fdS (stA s 24)
noncomputable def d80 (s : T8) : PySem.Stmt := stA s 24
noncomputable def d81 (s : T8) : PySem.Stmt := stA s 25
noncomputable def d82 (s : T8) : PySem.Stmt := stA s 26
noncomputable def d83 (s : T8) : PySem.Stmt := stA s 27
noncomputable def d84 (s : T8) : PySem.Stmt := stA s 28
noncomputable def d85 (s : T8) : PySem.Stmt := stA s 29
noncomputable def d86 (s : T8) : PySem.Arguments := fdA (stA s 30)
noncomputable def d87 (s : T8) : List PySem.Stmt := fdB (stA s 30)
noncomputable def d88 (s : T8) : PySem.Scope := fdS (stA s 30)
noncomputable def d89 (s : T8) : PySem.Stmt := stA s 30
noncomputable def d90 (s : T8) : PySem.Arguments := fdA (stA s 31)
noncomputable def d91 (s : T8) : List PySem.Stmt := fdB (stA s 31)
noncomputable def d92 (s : T8) : PySem.Scope := fdS (stA s 31)
noncomputable def d93 (s : T8) : PySem.Stmt := stA s 31
noncomputable def d94 (s : T8) : PySem.Arguments := fdA (stA s 32)
noncomputable def d95 (s : T8) : List PySem.Stmt := fdB (stA s 32)
noncomputable def d96 (s : T8) : PySem.Scope := fdS (stA s 32)
noncomputable def d97 (s : T8) : PySem.Stmt := stA s 32
noncomputable def d98 (s : T8) : PySem.Arguments := fdA (stA s 33)
noncomputable def d99 (s : T8) : List PySem.Stmt := fdB (stA s 33)
noncomputable def d100 (s : T8) : PySem.Scope := fdS (stA s 33)
noncomputable def d101 (s : T8) : PySem.Stmt := stA s 33
noncomputable def d102 (s : T8) : PySem.Stmt := stA s 34
noncomputable def d103 (s : T8) : PySem.Arguments := fdA (stA s 35)
noncomputable def d104 (s : T8) : List PySem.Stmt := fdB (stA s 35)
noncomputable def d105 (s : T8) : PySem.Scope := fdS (stA s 35)
noncomputable def d106 (s : T8) : PySem.Stmt := stA s 35
noncomputable def d107 (s : T8) : PySem.Stmt := stA s 36
noncomputable def d108 (s : T8) : PySem.Arguments := fdA (inC (stA s 37))
noncomputable def d109 (s : T8) : List PySem.Stmt := fdB (inC (stA s 37))
noncomputable def d110 (s : T8) : PySem.Scope := fdS (inC (stA s 37))
noncomputable def d111 (s : T8) : PySem.Stmt := stA s 37
noncomputable def d112 (s : T8) : PySem.Stmt := stA s 38
noncomputable def d113 (s : T8) : PySem.Arguments := fdA (stA s 39)
noncomputable def d114 (s : T8) : List PySem.Stmt := fdB (stA s 39)
noncomputable def d116 (s : T8) : PySem.Scope := fdS (stA s 39)
noncomputable def d117 (s : T8) : PySem.Stmt := stA s 39
noncomputable def d118 (s : T8) : PySem.Arguments := fdA (stA s 40)
noncomputable def d119 (s : T8) : List PySem.Stmt := fdB (stA s 40)
noncomputable def d120 (s : T8) : PySem.Scope := fdS (stA s 40)
noncomputable def d121 (s : T8) : PySem.Stmt := stA s 40
noncomputable def d122 (s : T8) : PySem.Arguments := fdA (stA s 41)
noncomputable def d123 (s : T8) : List PySem.Stmt := fdB (stA s 41)
noncomputable def d124 (s : T8) : PySem.Scope := fdS (stA s 41)
noncomputable def d125 (s : T8) : PySem.Stmt := stA s 41
noncomputable def d126 (s : T8) : PySem.Arguments := fdA (stA s 42)
noncomputable def d128 (s : T8) : List PySem.Stmt := fdB (stA s 42)
noncomputable def d129 (s : T8) : PySem.Scope := fdS (stA s 42)
noncomputable def d130 (s : T8) : PySem.Stmt := stA s 42
noncomputable def d131 (s : T8) : PySem.Arguments := fdA (stA s 43)
noncomputable def d133 (s : T8) : List PySem.Stmt := fdB (stA s 43)
noncomputable def d134 (s : T8) : PySem.Scope := fdS (stA s 43)
noncomputable def d135 (s : T8) : PySem.Stmt := stA s 43
noncomputable def d137 (s : T8) : PySem.Obj := ⟨(.type "tuple"),none,(.seq #[] 0),#[]⟩
noncomputable def d138 (s : T8) : PySem.Obj := ⟨.none,none,(.fields #[]),#[]⟩
noncomputable def d139 (s : T8) : PySem.Life := ⟨[],[],[],0,[],[],false,#[],[],0,false,false,false,0,[2000,10,10],false,0,true,[],[],0,false⟩
noncomputable def d140 (s : T8) : PySem.Obj := ⟨(.type "tuple"),none,(.seq #[(.type "Exception")] 0),#[]⟩
noncomputable def d141 (s : T8) : PySem.Obj := ⟨(.type "builtin_function_or_method"),none,(.fields #[(.builtin "type.__prepare__"),(.type "type")]),#[]⟩
noncomputable def d142 (s : T8) : List PySem.Value := [(.type "Exception"),(.type "BaseException"),(.type "object")]
noncomputable def d143 (s : T8) : List (Option PySem.Value) := [(some (.builtin "Exception.__new__")),(some (.bool true))]
noncomputable def d144 (s : T8) : List PySem.Value := [(.builtin "ExceptionGroup.__weakref__"),.none]
noncomputable def o43 (s : T8) (P : Params) : PySem.Obj := ⟨(.type "tuple"),none,(.seq #[] 0),#[]⟩
noncomputable def o44 (s : T8) (P : Params) : PySem.Obj := ⟨.none,none,(.fields #[]),#[]⟩
noncomputable def o45 (s : T8) (P : Params) : PySem.Obj := ⟨(.type "code"),none,(.fields (List.toArray ((.str (a179 s) 182)::(.str (a179 s) 183)::(.str (a180 s) 184)::(.int 1 0)::(.int 0 0)::(.int 0 0)::(.int 0 0)::(.int 0 0)::(.ref 11)::(.bool false)::(.int 181 0)::(.ref 12)::.none::.none::.none::.none::(.int 185 0)::(.int 1 0)::(.str (a180 s) 186)::[]))),#[]⟩
noncomputable def o46 (s : T8) (P : Params) : PySem.Obj := ⟨(.type "frame"),none,.plain,#[(some (.ref 13)),(some (.ref 3)),(some (.ref 3)),none,(some (.str (a181 s) 164)),none,(some (.ref 0))]⟩
noncomputable def heap46 (s : T8) (P : Params) : PySem.Heap := ⟨⟨[(PySem.W.boot_o_0 P),(PySem.W.boot_o_1 P),(PySem.W.boot_o_2 P),(PySem.W.boot_o_3 P),(PySem.W.boot_o_4 P),(PySem.W.boot_o_5 P),(PySem.W.boot_o_6 P),(PySem.W.boot_o_7 P),(PySem.W.boot_o_8 P),(PySem.W.boot_o_9 P),(PySem.W.boot_o_10 P),(o43 s P),(o44 s P),(o45 s P),(o46 s P)]⟩,(d139 s)⟩
noncomputable def tree47 (s : T8) (P : Params) : PySem.W.BT := (.node (PySem.W.boot_o_0 P) (.node (PySem.W.boot_o_1 P) (.node (PySem.W.boot_o_3 P) (.node (PySem.W.boot_o_7 P) .nil .nil) (.node (o43 s P) .nil .nil)) (.node (PySem.W.boot_o_5 P) (.node (PySem.W.boot_o_9 P) .nil .nil) (.node (o45 s P) .nil .nil))) (.node (PySem.W.boot_o_2 P) (.node (PySem.W.boot_o_4 P) (.node (PySem.W.boot_o_8 P) .nil .nil) (.node (o44 s P) .nil .nil)) (.node (PySem.W.boot_o_6 P) (.node (PySem.W.boot_o_10 P) .nil .nil) (.node (o46 s P) .nil .nil))))
noncomputable def o49 (s : T8) (P : Params) : PySem.Obj := ⟨.none,none,(.dict #[⟨(PySem.PyData.keyHash P (a182 s)),(.str (a182 s) 230),(.int 41 0)⟩,⟨(PySem.PyData.keyHash P (a183 s)),(.str (a183 s) 231),(.int 1 0)⟩] 2),#[]⟩
noncomputable def sts49 (s : T8) : List PySem.Stmt := [(d0 s),(d4 s),(d5 s),(d6 s),(d10 s),(d14 s),(d18 s)]
noncomputable def o50 (s : T8) (P : Params) : PySem.Obj := ⟨(.type "dict"),none,(.dict #[⟨(PySem.PyData.keyHash P (a0 s)),(.str (a0 s) 165),(.str (a8 s) 196)⟩,⟨(PySem.PyData.keyHash P (a184 s)),(.str (a184 s) 166),.none⟩,⟨(PySem.PyData.keyHash P (a185 s)),(.str (a185 s) 167),.none⟩,⟨(PySem.PyData.keyHash P (a186 s)),(.str (a186 s) 168),(.builtin "__main__.__loader__#opaque")⟩,⟨(PySem.PyData.keyHash P (a187 s)),(.str (a187 s) 169),.none⟩,⟨(PySem.PyData.keyHash P (a188 s)),(.str (a188 s) 170),(.ref 6)⟩,⟨(PySem.PyData.keyHash P (a189 s)),(.str (a189 s) 171),(.ref 4)⟩,⟨(PySem.PyData.keyHash P (a190 s)),(.str (a190 s) 173),(.str (a180 s) 172)⟩,⟨(PySem.PyData.keyHash P (a191 s)),(.str (a191 s) 174),.none⟩,⟨(PySem.PyData.keyHash P (a7 s)),(.str (a7 s) 195),(.ref 21)⟩,⟨(PySem.PyData.keyHash P (a9 s)),(.str (a9 s) 199),(.int 99 198)⟩,⟨(PySem.PyData.keyHash P (a16 s)),(.str (a16 s) 233),(.ref 41)⟩,⟨(PySem.PyData.keyHash P (a21 s)),(.str (a21 s) 242),(.ref 51)⟩,⟨(PySem.PyData.keyHash P (a26 s)),(.str (a26 s) 253),(.ref 58)⟩] 14),#[]⟩
noncomputable def o51 (s : T8) (P : Params) : PySem.Obj := ⟨.none,none,(.fields #[(.int 2 0),(.int 0 0),(.ref 20),(.int 7 0),(.int 0 0),(.ref 28),(.int 13 0),(.int 0 0),(.ref 50),(.int 19 0),(.int 0 0),(.ref 57)]),#[]⟩
noncomputable def o52 (s : T8) (P : Params) : PySem.Obj := ⟨(.type "tuple"),none,(.seq #[] 0),#[]⟩
noncomputable def o53 (s : T8) (P : Params) : PySem.Obj := ⟨.none,none,(.fields #[]),#[]⟩
noncomputable def o54 (s : T8) (P : Params) : PySem.Obj := ⟨(.type "tuple"),none,(.seq #[(.str (a2 s) 192)] 0),#[]⟩
noncomputable def o55 (s : T8) (P : Params) : PySem.Obj := ⟨(.type "tuple"),none,(.seq #[] 0),#[]⟩
noncomputable def o56 (s : T8) (P : Params) : PySem.Obj := ⟨.none,none,(.func ⟨(a7 s),(a7 s),(d1 s),(.stmts (d2 s)),(d3 s),0,[],.none,.none,.none,.none,none,.none,.none,0⟩),#[]⟩
noncomputable def o57 (s : T8) (P : Params) : PySem.Obj := ⟨(.type "code"),none,(.fields (List.toArray ((.str (a7 s) 189)::(.str (a7 s) 190)::(.str (a180 s) 191)::(.int 2 0)::(.int 1 0)::(.int 0 0)::(.int 0 0)::(.int 3 0)::(.ref 15)::(.bool true)::(.int 181 0)::(.ref 16)::.none::(.ref 17)::(.ref 18)::(.ref 19)::(.int 193 0)::(.int 2 0)::(.str (a180 s) 194)::[]))),#[]⟩
noncomputable def o58 (s : T8) (P : Params) : PySem.Obj := ⟨(.type "function"),none,(.func ⟨(a7 s),(a7 s),(d1 s),(.stmts (d2 s)),(d3 s),3,[],.none,.none,.none,(.str (a1 s) 187),none,(.ref 20),.none,0⟩),#[]⟩
noncomputable def o59 (s : T8) (P : Params) : PySem.Obj := ⟨(.type "tuple"),none,(.seq #[(.type "Exception")] 0),#[]⟩
noncomputable def o60 (s : T8) (P : Params) : PySem.Obj := ⟨(.type "builtin_function_or_method"),none,(.fields #[(.builtin "type.__prepare__"),(.type "type")]),#[]⟩
noncomputable def o61 (s : T8) (P : Params) : PySem.Obj := ⟨(.type "dict"),none,(.dict #[⟨(PySem.PyData.keyHash P (a192 s)),(.str (a192 s) 207),(.str (a8 s) 196)⟩,⟨(PySem.PyData.keyHash P (a193 s)),(.str (a193 s) 209),(.str (a16 s) 208)⟩,⟨(PySem.PyData.keyHash P (a194 s)),(.str (a194 s) 211),(.int 7 210)⟩,⟨(PySem.PyData.keyHash P (a14 s)),(.str (a14 s) 222),(.ref 38)⟩,⟨(PySem.PyData.keyHash P (a195 s)),(.str (a195 s) 225),(.ref 39)⟩,⟨(PySem.PyData.keyHash P (a196 s)),(.str (a196 s) 226),(.ref 25)⟩] 6),#[]⟩
noncomputable def o62 (s : T8) (P : Params) : PySem.Obj := ⟨(.type "cell"),none,(.cell (some (.ref 41))),#[]⟩
noncomputable def o63 (s : T8) (P : Params) : PySem.Obj := ⟨(.type "tuple"),none,(.seq #[] 0),#[]⟩
noncomputable def o64 (s : T8) (P : Params) : PySem.Obj := ⟨.none,none,(.fields #[(.int 9 0),(.int 4 0),(.ref 37)]),#[]⟩
noncomputable def o65 (s : T8) (P : Params) : PySem.Obj := ⟨(.type "code"),none,(.fields (List.toArray ((.str (a16 s) 202)::(.str (a16 s) 203)::(.str (a180 s) 204)::(.int 7 0)::(.int 0 0)::(.int 0 0)::(.int 0 0)::(.int 0 0)::(.ref 26)::(.bool false)::(.int 181 0)::(.ref 27)::.none::.none::.none::.none::(.int 205 0)::(.int 7 0)::(.str (a180 s) 206)::[]))),#[]⟩
noncomputable def o66 (s : T8) (P : Params) : PySem.Obj := ⟨(.type "frame"),none,.plain,#[(some (.ref 28)),(some (.ref 3)),(some (.ref 24)),none,(some (.str (a8 s) 196)),none,(some (.ref 0))]⟩
noncomputable def o67 (s : T8) (P : Params) : PySem.Obj := ⟨(.type "tuple"),none,(.seq #[(.str (a6 s) 212)] 0),#[]⟩
noncomputable def o68 (s : T8) (P : Params) : PySem.Obj := ⟨(.type "tuple"),none,(.seq #[(.ref 25)] 0),#[]⟩
noncomputable def o69 (s : T8) (P : Params) : PySem.Obj := ⟨(.type "tuple"),none,(.seq #[(.str (a15 s) 216)] 0),#[]⟩
noncomputable def o70 (s : T8) (P : Params) : PySem.Obj := ⟨.none,none,(.fields #[]),#[]⟩
noncomputable def o71 (s : T8) (P : Params) : PySem.Obj := ⟨(.type "tuple"),none,(.seq #[(.str (a10 s) 217),(.str (a11 s) 218),(.str (a12 s) 219)] 0),#[]⟩
noncomputable def o72 (s : T8) (P : Params) : PySem.Obj := ⟨(.type "tuple"),none,(.seq #[] 0),#[]⟩
noncomputable def o73 (s : T8) (P : Params) : PySem.Obj := ⟨.none,none,(.func ⟨(a14 s),(a197 s),(d7 s),(.stmts (d8 s)),(d9 s),0,[],.none,.none,.none,.none,none,.none,.none,0⟩),#[]⟩
noncomputable def o74 (s : T8) (P : Params) : PySem.Obj := ⟨(.type "code"),none,(.fields (List.toArray ((.str (a14 s) 213)::(.str (a197 s) 214)::(.str (a180 s) 215)::(.int 9 0)::(.int 3 0)::(.int 0 0)::(.int 0 0)::(.int 3 0)::(.ref 32)::(.bool true)::(.int 181 0)::(.ref 33)::.none::(.ref 34)::(.ref 35)::(.ref 36)::(.int 220 0)::(.int 9 0)::(.str (a180 s) 221)::[]))),#[]⟩
noncomputable def o75 (s : T8) (P : Params) : PySem.Obj := ⟨(.type "function"),none,(.func ⟨(a14 s),(a197 s),(d7 s),(.stmts (d8 s)),(d9 s),3,[((a15 s),25)],(.ref 30),.none,.none,(.str (a8 s) 196),none,(.ref 37),(.ref 31),0⟩),#[]⟩
noncomputable def o76 (s : T8) (P : Params) : PySem.Obj := ⟨(.type "tuple"),none,(.seq #[(.str (a11 s) 223),(.str (a12 s) 224)] 0),#[]⟩
noncomputable def o77 (s : T8) (P : Params) : PySem.Obj := ⟨(.type "dict"),none,(.dict #[⟨(PySem.PyData.keyHash P (a192 s)),(.str (a192 s) 207),(.str (a8 s) 196)⟩,⟨(PySem.PyData.keyHash P (a194 s)),(.str (a194 s) 211),(.int 7 210)⟩,⟨(PySem.PyData.keyHash P (a14 s)),(.str (a14 s) 222),(.ref 38)⟩,⟨(PySem.PyData.keyHash P (a195 s)),(.str (a195 s) 225),(.ref 39)⟩,⟨(PySem.PyData.keyHash P (a198 s)),(.str (a198 s) 228),(.ref 42)⟩,⟨(PySem.PyData.keyHash P (a184 s)),(.str (a184 s) 229),.none⟩] 4),#[]⟩
noncomputable def o78 (s : T8) (P : Params) : PySem.Obj := ⟨(.type "type"),none,(.cls ⟨(a16 s),[(.type "Exception")],((.ref 41)::(d142 s)),40,(a16 s),true,[],[],false,none,false⟩),(List.toArray ((some (.ref 22))::none::(some (.str (a16 s) 200))::(some (.str (a16 s) 208))::(d143 s)))⟩
noncomputable def o79 (s : T8) (P : Params) : PySem.Obj := ⟨(.type "getset_descriptor"),none,(.fields (List.toArray ((.str (a198 s) 227)::(.ref 41)::(d144 s)))),#[]⟩
noncomputable def o80 (s : T8) (P : Params) : PySem.Obj := ⟨(.type "super"),none,(.fields #[(.ref 41),(.ref 41),(.ref 41)]),#[]⟩
noncomputable def o81 (s : T8) (P : Params) : PySem.Obj := ⟨(.type "builtin_function_or_method"),none,(.fields #[(.builtin "object.__init_subclass__"),(.ref 41)]),#[]⟩
noncomputable def o82 (s : T8) (P : Params) : PySem.Obj := ⟨(.type "tuple"),none,(.seq #[] 0),#[]⟩
noncomputable def o83 (s : T8) (P : Params) : PySem.Obj := ⟨.none,none,(.fields #[]),#[]⟩
noncomputable def o84 (s : T8) (P : Params) : PySem.Obj := ⟨(.type "tuple"),none,(.seq #[(.str (a18 s) 237),(.str (a19 s) 238),(.str (a20 s) 239)] 0),#[]⟩
noncomputable def o85 (s : T8) (P : Params) : PySem.Obj := ⟨(.type "tuple"),none,(.seq #[] 0),#[]⟩
noncomputable def o86 (s : T8) (P : Params) : PySem.Obj := ⟨.none,none,(.func ⟨(a21 s),(a21 s),(d11 s),(.stmts (d12 s)),(d13 s),0,[],.none,.none,.none,.none,none,.none,.none,0⟩),#[]⟩
noncomputable def o87 (s : T8) (P : Params) : PySem.Obj := ⟨(.type "code"),none,(.fields (List.toArray ((.str (a21 s) 234)::(.str (a21 s) 235)::(.str (a180 s) 236)::(.int 13 0)::(.int 1 0)::(.int 0 0)::(.int 0 0)::(.int 3 0)::(.ref 45)::(.bool true)::(.int 181 0)::(.ref 46)::.none::(.ref 47)::(.ref 48)::(.ref 49)::(.int 240 0)::(.int 13 0)::(.str (a180 s) 241)::[]))),#[]⟩
noncomputable def o88 (s : T8) (P : Params) : PySem.Obj := ⟨(.type "function"),none,(.func ⟨(a21 s),(a21 s),(d11 s),(.stmts (d12 s)),(d13 s),3,[],.none,.none,.none,(.str (a8 s) 196),none,(.ref 50),.none,0⟩),#[]⟩
noncomputable def o89 (s : T8) (P : Params) : PySem.Obj := ⟨(.type "tuple"),none,(.seq #[] 0),#[]⟩
noncomputable def o90 (s : T8) (P : Params) : PySem.Obj := ⟨.none,none,(.fields #[]),#[]⟩
noncomputable def o91 (s : T8) (P : Params) : PySem.Obj := ⟨(.type "tuple"),none,(.seq #[(.str (a18 s) 246),(.str (a22 s) 247),(.str (a23 s) 248),(.str (a24 s) 249),(.str (a25 s) 250)] 0),#[]⟩
noncomputable def o92 (s : T8) (P : Params) : PySem.Obj := ⟨(.type "tuple"),none,(.seq #[] 0),#[]⟩
noncomputable def o93 (s : T8) (P : Params) : PySem.Obj := ⟨.none,none,(.func ⟨(a26 s),(a26 s),(d15 s),(.stmts (d16 s)),(d17 s),0,[],.none,.none,.none,.none,none,.none,.none,0⟩),#[]⟩
noncomputable def o94 (s : T8) (P : Params) : PySem.Obj := ⟨(.type "code"),none,(.fields (List.toArray ((.str (a26 s) 243)::(.str (a26 s) 244)::(.str (a180 s) 245)::(.int 19 0)::(.int 2 0)::(.int 0 0)::(.int 0 0)::(.int 3 0)::(.ref 52)::(.bool true)::(.int 181 0)::(.ref 53)::.none::(.ref 54)::(.ref 55)::(.ref 56)::(.int 251 0)::(.int 19 0)::(.str (a180 s) 252)::[]))),#[]⟩
noncomputable def o95 (s : T8) (P : Params) : PySem.Obj := ⟨(.type "function"),none,(.func ⟨(a26 s),(a26 s),(d15 s),(.stmts (d16 s)),(d17 s),3,[],.none,.none,.none,(.str (a8 s) 196),none,(.ref 57),.none,0⟩),#[]⟩
noncomputable def tree95 (s : T8) (P : Params) : PySem.W.BT := (.node (PySem.W.boot_o_0 P) (.node (PySem.W.boot_o_1 P) (.node (o50 s P) (.node (PySem.W.boot_o_7 P) (.node (o52 s P) (.node (o68 s P) .nil .nil) (.node (o84 s P) .nil .nil)) (.node (o60 s P) (.node (o76 s P) .nil .nil) (.node (o92 s P) .nil .nil))) (.node (o43 s P) (.node (o56 s P) (.node (o72 s P) .nil .nil) (.node (o88 s P) .nil .nil)) (.node (o64 s P) (.node (o80 s P) .nil .nil) .nil))) (.node (PySem.W.boot_o_5 P) (.node (PySem.W.boot_o_9 P) (.node (o54 s P) (.node (o70 s P) .nil .nil) (.node (o86 s P) .nil .nil)) (.node (o62 s P) (.node (o78 s P) .nil .nil) (.node (o94 s P) .nil .nil))) (.node (o45 s P) (.node (o58 s P) (.node (o74 s P) .nil .nil) (.node (o90 s P) .nil .nil)) (.node (o66 s P) (.node (o82 s P) .nil .nil) .nil)))) (.node (o49 s P) (.node (PySem.W.boot_o_4 P) (.node (PySem.W.boot_o_8 P) (.node (o53 s P) (.node (o69 s P) .nil .nil) (.node (o85 s P) .nil .nil)) (.node (o61 s P) (.node (o77 s P) .nil .nil) (.node (o93 s P) .nil .nil))) (.node (o51 s P) (.node (o57 s P) (.node (o73 s P) .nil .nil) (.node (o89 s P) .nil .nil)) (.node (o65 s P) (.node (o81 s P) .nil .nil) .nil))) (.node (PySem.W.boot_o_6 P) (.node (PySem.W.boot_o_10 P) (.node (o55 s P) (.node (o71 s P) .nil .nil) (.node (o87 s P) .nil .nil)) (.node (o63 s P) (.node (o79 s P) .nil .nil) (.node (o95 s P) .nil .nil))) (.node (o46 s P) (.node (o59 s P) (.node (o75 s P) .nil .nil) (.node (o91 s P) .nil .nil)) (.node (o67 s P) (.node (o83 s P) .nil .nil) .nil)))))
noncomputable def o96 (s : T8) (P : Params) : PySem.Obj := ⟨.none,none,(.dict #[⟨(PySem.PyData.keyHash P (a182 s)),(.str (a182 s) 230),(.int 41 0)⟩,⟨(PySem.PyData.keyHash P (a183 s)),(.str (a183 s) 231),(.int 2 0)⟩,⟨(PySem.PyData.keyHash P (a199 s)),(.str (a199 s) 288),(.int 75 0)⟩] 3),#[]⟩
noncomputable def sts96 (s : T8) : List PySem.Stmt := [(d23 s),(d24 s),(d25 s),(d26 s),(d27 s),(d32 s),(d36 s),(d40 s),(d45 s)]
noncomputable def o97 (s : T8) (P : Params) : PySem.Obj := ⟨(.type "dict"),none,(.dict (List.toArray (⟨(PySem.PyData.keyHash P (a0 s)),(.str (a0 s) 165),(.str (a36 s) 266)⟩::⟨(PySem.PyData.keyHash P (a184 s)),(.str (a184 s) 166),.none⟩::⟨(PySem.PyData.keyHash P (a185 s)),(.str (a185 s) 167),.none⟩::⟨(PySem.PyData.keyHash P (a186 s)),(.str (a186 s) 168),(.builtin "__main__.__loader__#opaque")⟩::⟨(PySem.PyData.keyHash P (a187 s)),(.str (a187 s) 169),.none⟩::⟨(PySem.PyData.keyHash P (a188 s)),(.str (a188 s) 170),(.ref 6)⟩::⟨(PySem.PyData.keyHash P (a189 s)),(.str (a189 s) 171),(.ref 4)⟩::⟨(PySem.PyData.keyHash P (a190 s)),(.str (a190 s) 173),(.str (a180 s) 172)⟩::⟨(PySem.PyData.keyHash P (a191 s)),(.str (a191 s) 174),.none⟩::⟨(PySem.PyData.keyHash P (a7 s)),(.str (a7 s) 195),(.ref 21)⟩::⟨(PySem.PyData.keyHash P (a9 s)),(.str (a9 s) 199),(.int 99 198)⟩::⟨(PySem.PyData.keyHash P (a16 s)),(.str (a16 s) 233),(.ref 41)⟩::⟨(PySem.PyData.keyHash P (a21 s)),(.str (a21 s) 242),(.ref 51)⟩::⟨(PySem.PyData.keyHash P (a26 s)),(.str (a26 s) 253),(.ref 58)⟩::⟨(PySem.PyData.keyHash P (a35 s)),(.str (a35 s) 265),(.ref 65)⟩::⟨(PySem.PyData.keyHash P (a37 s)),(.str (a37 s) 269),(.str (a38 s) 268)⟩::⟨(PySem.PyData.keyHash P (a39 s)),(.str (a39 s) 271),(.str (a40 s) 270)⟩::⟨(PySem.PyData.keyHash P (a41 s)),(.str (a41 s) 291),(.ref 75)⟩::⟨(PySem.PyData.keyHash P (a45 s)),(.str (a45 s) 299),(.ref 85)⟩::⟨(PySem.PyData.keyHash P (a49 s)),(.str (a49 s) 308),(.ref 92)⟩::⟨(PySem.PyData.keyHash P (a52 s)),(.str (a52 s) 318),(.ref 99)⟩::⟨(PySem.PyData.keyHash P (a56 s)),(.str (a56 s) 331),(.ref 106)⟩::[])) 22),#[]⟩
noncomputable def o98 (s : T8) (P : Params) : PySem.Obj := ⟨.none,none,(.fields (List.toArray ((.int 2 0)::(.int 0 0)::(.ref 20)::(.int 7 0)::(.int 0 0)::(.ref 28)::(.int 13 0)::(.int 0 0)::(.ref 50)::(.int 19 0)::(.int 0 0)::(.ref 57)::(.int 29 0)::(.int 0 0)::(.ref 64)::(.int 47 0)::(.int 0 0)::(.ref 71)::(.int 49 0)::(.int 0 0)::(.ref 84)::(.int 53 0)::(.int 0 0)::(.ref 91)::(.int 58 0)::(.int 0 0)::(.ref 98)::(.int 66 0)::(.int 0 0)::(.ref 105)::[]))),#[]⟩
noncomputable def o99 (s : T8) (P : Params) : PySem.Obj := ⟨(.type "tuple"),none,(.seq #[] 0),#[]⟩
noncomputable def o100 (s : T8) (P : Params) : PySem.Obj := ⟨.none,none,(.fields #[]),#[]⟩
noncomputable def o101 (s : T8) (P : Params) : PySem.Obj := ⟨(.type "tuple"),none,(.seq #[(.str (a27 s) 257),(.str (a28 s) 258),(.str (a29 s) 259),(.str (a30 s) 260),(.str (a32 s) 261),(.str (a33 s) 262)] 0),#[]⟩
noncomputable def o102 (s : T8) (P : Params) : PySem.Obj := ⟨(.type "tuple"),none,(.seq #[] 0),#[]⟩
noncomputable def o103 (s : T8) (P : Params) : PySem.Obj := ⟨.none,none,(.func ⟨(a35 s),(a35 s),(d19 s),(.stmts (d20 s)),(d22 s),0,[],.none,.none,.none,.none,none,.none,.none,0⟩),#[]⟩
noncomputable def o104 (s : T8) (P : Params) : PySem.Obj := ⟨(.type "code"),none,(.fields (List.toArray ((.str (a35 s) 254)::(.str (a35 s) 255)::(.str (a180 s) 256)::(.int 29 0)::(.int 3 0)::(.int 0 0)::(.int 0 0)::(.int 3 0)::(.ref 59)::(.bool true)::(.int 181 0)::(.ref 60)::.none::(.ref 61)::(.ref 62)::(.ref 63)::(.int 263 0)::(.int 29 0)::(.str (a180 s) 264)::[]))),#[]⟩
noncomputable def o105 (s : T8) (P : Params) : PySem.Obj := ⟨(.type "function"),none,(.func ⟨(a35 s),(a35 s),(d19 s),(.stmts (d20 s)),(d22 s),3,[],.none,.none,.none,(.str (a8 s) 196),none,(.ref 64),.none,0⟩),#[]⟩
noncomputable def o106 (s : T8) (P : Params) : PySem.Obj := ⟨(.type "tuple"),none,(.seq #[(.type "Exception")] 0),#[]⟩
noncomputable def o107 (s : T8) (P : Params) : PySem.Obj := ⟨(.type "builtin_function_or_method"),none,(.fields #[(.builtin "type.__prepare__"),(.type "type")]),#[]⟩
noncomputable def o108 (s : T8) (P : Params) : PySem.Obj := ⟨(.type "dict"),none,(.dict #[⟨(PySem.PyData.keyHash P (a192 s)),(.str (a192 s) 279),(.str (a36 s) 266)⟩,⟨(PySem.PyData.keyHash P (a193 s)),(.str (a193 s) 281),(.str (a41 s) 280)⟩,⟨(PySem.PyData.keyHash P (a194 s)),(.str (a194 s) 283),(.int 47 282)⟩,⟨(PySem.PyData.keyHash P (a195 s)),(.str (a195 s) 284),(.ref 73)⟩] 4),#[]⟩
noncomputable def o109 (s : T8) (P : Params) : PySem.Obj := ⟨(.type "tuple"),none,(.seq #[] 0),#[]⟩
noncomputable def o110 (s : T8) (P : Params) : PySem.Obj := ⟨.none,none,(.fields #[]),#[]⟩
noncomputable def o111 (s : T8) (P : Params) : PySem.Obj := ⟨(.type "code"),none,(.fields (List.toArray ((.str (a41 s) 274)::(.str (a41 s) 275)::(.str (a180 s) 276)::(.int 47 0)::(.int 0 0)::(.int 0 0)::(.int 0 0)::(.int 0 0)::(.ref 69)::(.bool false)::(.int 181 0)::(.ref 70)::.none::.none::.none::.none::(.int 277 0)::(.int 47 0)::(.str (a180 s) 278)::[]))),#[]⟩
noncomputable def o112 (s : T8) (P : Params) : PySem.Obj := ⟨(.type "frame"),none,.plain,#[(some (.ref 71)),(some (.ref 3)),(some (.ref 68)),none,(some (.str (a36 s) 266)),none,(some (.ref 0))]⟩
noncomputable def o113 (s : T8) (P : Params) : PySem.Obj := ⟨(.type "tuple"),none,(.seq #[] 0),#[]⟩
noncomputable def o114 (s : T8) (P : Params) : PySem.Obj := ⟨(.type "dict"),none,(.dict #[⟨(PySem.PyData.keyHash P (a192 s)),(.str (a192 s) 279),(.str (a36 s) 266)⟩,⟨(PySem.PyData.keyHash P (a194 s)),(.str (a194 s) 283),(.int 47 282)⟩,⟨(PySem.PyData.keyHash P (a195 s)),(.str (a195 s) 284),(.ref 73)⟩,⟨(PySem.PyData.keyHash P (a198 s)),(.str (a198 s) 286),(.ref 76)⟩,⟨(PySem.PyData.keyHash P (a184 s)),(.str (a184 s) 287),.none⟩] 3),#[]⟩
noncomputable def o115 (s : T8) (P : Params) : PySem.Obj := ⟨(.type "type"),none,(.cls ⟨(a41 s),[(.type "Exception")],((.ref 75)::(d142 s)),74,(a41 s),true,[],[],false,none,false⟩),(List.toArray ((some (.ref 66))::none::(some (.str (a41 s) 272))::(some (.str (a41 s) 280))::(d143 s)))⟩
noncomputable def o116 (s : T8) (P : Params) : PySem.Obj := ⟨(.type "getset_descriptor"),none,(.fields (List.toArray ((.str (a198 s) 285)::(.ref 75)::(d144 s)))),#[]⟩
noncomputable def o117 (s : T8) (P : Params) : PySem.Obj := ⟨(.type "super"),none,(.fields #[(.ref 75),(.ref 75),(.ref 75)]),#[]⟩
noncomputable def o118 (s : T8) (P : Params) : PySem.Obj := ⟨(.type "builtin_function_or_method"),none,(.fields #[(.builtin "object.__init_subclass__"),(.ref 75)]),#[]⟩
noncomputable def o119 (s : T8) (P : Params) : PySem.Obj := ⟨(.type "tuple"),none,(.seq #[] 0),#[]⟩
noncomputable def o120 (s : T8) (P : Params) : PySem.Obj := ⟨.none,none,(.fields #[]),#[]⟩
noncomputable def o121 (s : T8) (P : Params) : PySem.Obj := ⟨(.type "tuple"),none,(.seq #[(.str (a42 s) 295),(.str (a43 s) 296)] 0),#[]⟩
noncomputable def o122 (s : T8) (P : Params) : PySem.Obj := ⟨(.type "tuple"),none,(.seq #[] 0),#[]⟩
noncomputable def o123 (s : T8) (P : Params) : PySem.Obj := ⟨.none,none,(.func ⟨(a45 s),(a45 s),(d28 s),(.stmts (d29 s)),(d31 s),0,[],.none,.none,.none,.none,none,.none,.none,0⟩),#[]⟩
noncomputable def o124 (s : T8) (P : Params) : PySem.Obj := ⟨(.type "code"),none,(.fields (List.toArray ((.str (a45 s) 292)::(.str (a45 s) 293)::(.str (a180 s) 294)::(.int 49 0)::(.int 2 0)::(.int 0 0)::(.int 0 0)::(.int 3 0)::(.ref 79)::(.bool true)::(.int 181 0)::(.ref 80)::.none::(.ref 81)::(.ref 82)::(.ref 83)::(.int 297 0)::(.int 49 0)::(.str (a180 s) 298)::[]))),#[]⟩
noncomputable def o125 (s : T8) (P : Params) : PySem.Obj := ⟨(.type "function"),none,(.func ⟨(a45 s),(a45 s),(d28 s),(.stmts (d29 s)),(d31 s),3,[],.none,.none,.none,(.str (a36 s) 266),none,(.ref 84),.none,0⟩),#[]⟩
noncomputable def o126 (s : T8) (P : Params) : PySem.Obj := ⟨(.type "tuple"),none,(.seq #[] 0),#[]⟩
noncomputable def o127 (s : T8) (P : Params) : PySem.Obj := ⟨.none,none,(.fields #[]),#[]⟩
noncomputable def o128 (s : T8) (P : Params) : PySem.Obj := ⟨(.type "tuple"),none,(.seq #[(.str (a42 s) 303),(.str (a43 s) 304),(.str (a46 s) 305)] 0),#[]⟩
noncomputable def o129 (s : T8) (P : Params) : PySem.Obj := ⟨(.type "tuple"),none,(.seq #[] 0),#[]⟩
noncomputable def o130 (s : T8) (P : Params) : PySem.Obj := ⟨.none,none,(.func ⟨(a49 s),(a49 s),(d33 s),(.stmts (d34 s)),(d35 s),0,[],.none,.none,.none,.none,none,.none,.none,0⟩),#[]⟩
noncomputable def o131 (s : T8) (P : Params) : PySem.Obj := ⟨(.type "code"),none,(.fields (List.toArray ((.str (a49 s) 300)::(.str (a49 s) 301)::(.str (a180 s) 302)::(.int 53 0)::(.int 2 0)::(.int 0 0)::(.int 0 0)::(.int 3 0)::(.ref 86)::(.bool true)::(.int 181 0)::(.ref 87)::.none::(.ref 88)::(.ref 89)::(.ref 90)::(.int 306 0)::(.int 53 0)::(.str (a180 s) 307)::[]))),#[]⟩
noncomputable def o132 (s : T8) (P : Params) : PySem.Obj := ⟨(.type "function"),none,(.func ⟨(a49 s),(a49 s),(d33 s),(.stmts (d34 s)),(d35 s),3,[],.none,.none,.none,(.str (a36 s) 266),none,(.ref 91),.none,0⟩),#[]⟩
noncomputable def o133 (s : T8) (P : Params) : PySem.Obj := ⟨(.type "tuple"),none,(.seq #[] 0),#[]⟩
noncomputable def o134 (s : T8) (P : Params) : PySem.Obj := ⟨.none,none,(.fields #[]),#[]⟩
noncomputable def o135 (s : T8) (P : Params) : PySem.Obj := ⟨(.type "tuple"),none,(.seq #[(.str (a42 s) 312),(.str (a43 s) 313),(.str (a24 s) 314),(.str (a46 s) 315)] 0),#[]⟩
noncomputable def o136 (s : T8) (P : Params) : PySem.Obj := ⟨(.type "tuple"),none,(.seq #[] 0),#[]⟩
noncomputable def o137 (s : T8) (P : Params) : PySem.Obj := ⟨.none,none,(.func ⟨(a52 s),(a52 s),(d37 s),(.stmts (d38 s)),(d39 s),0,[],.none,.none,.none,.none,none,.none,.none,0⟩),#[]⟩
noncomputable def o138 (s : T8) (P : Params) : PySem.Obj := ⟨(.type "code"),none,(.fields (List.toArray ((.str (a52 s) 309)::(.str (a52 s) 310)::(.str (a180 s) 311)::(.int 58 0)::(.int 2 0)::(.int 0 0)::(.int 0 0)::(.int 3 0)::(.ref 93)::(.bool true)::(.int 181 0)::(.ref 94)::.none::(.ref 95)::(.ref 96)::(.ref 97)::(.int 316 0)::(.int 58 0)::(.str (a180 s) 317)::[]))),#[]⟩
noncomputable def o139 (s : T8) (P : Params) : PySem.Obj := ⟨(.type "function"),none,(.func ⟨(a52 s),(a52 s),(d37 s),(.stmts (d38 s)),(d39 s),3,[],.none,.none,.none,(.str (a36 s) 266),none,(.ref 98),.none,0⟩),#[]⟩
noncomputable def o140 (s : T8) (P : Params) : PySem.Obj := ⟨(.type "tuple"),none,(.seq #[] 0),#[]⟩
noncomputable def o141 (s : T8) (P : Params) : PySem.Obj := ⟨.none,none,(.fields #[]),#[]⟩
noncomputable def o142 (s : T8) (P : Params) : PySem.Obj := ⟨(.type "tuple"),none,(.seq #[(.str (a42 s) 322),(.str (a24 s) 323),(.str (a43 s) 324),(.str (a53 s) 325),(.str (a54 s) 326),(.str (a46 s) 327),(.str (a55 s) 328)] 0),#[]⟩
noncomputable def o143 (s : T8) (P : Params) : PySem.Obj := ⟨(.type "tuple"),none,(.seq #[] 0),#[]⟩
noncomputable def o144 (s : T8) (P : Params) : PySem.Obj := ⟨.none,none,(.func ⟨(a56 s),(a56 s),(d41 s),(.stmts (d42 s)),(d44 s),0,[],.none,.none,.none,.none,none,.none,.none,0⟩),#[]⟩
noncomputable def o145 (s : T8) (P : Params) : PySem.Obj := ⟨(.type "code"),none,(.fields (List.toArray ((.str (a56 s) 319)::(.str (a56 s) 320)::(.str (a180 s) 321)::(.int 66 0)::(.int 1 0)::(.int 0 0)::(.int 0 0)::(.int 3 0)::(.ref 100)::(.bool true)::(.int 181 0)::(.ref 101)::.none::(.ref 102)::(.ref 103)::(.ref 104)::(.int 329 0)::(.int 66 0)::(.str (a180 s) 330)::[]))),#[]⟩
noncomputable def o146 (s : T8) (P : Params) : PySem.Obj := ⟨(.type "function"),none,(.func ⟨(a56 s),(a56 s),(d41 s),(.stmts (d42 s)),(d44 s),3,[],.none,.none,.none,(.str (a36 s) 266),none,(.ref 105),.none,0⟩),#[]⟩
noncomputable def tree146 (s : T8) (P : Params) : PySem.W.BT := (.node (PySem.W.boot_o_0 P) (.node (PySem.W.boot_o_1 P) (.node (o97 s P) (.node (PySem.W.boot_o_7 P) (.node (o52 s P) (.node (o68 s P) (.node (o103 s P) .nil .nil) (.node (o135 s P) .nil .nil)) (.node (o84 s P) (.node (o119 s P) .nil .nil) .nil)) (.node (o60 s P) (.node (o76 s P) (.node (o111 s P) .nil .nil) (.node (o143 s P) .nil .nil)) (.node (o92 s P) (.node (o127 s P) .nil .nil) .nil))) (.node (o43 s P) (.node (o56 s P) (.node (o72 s P) (.node (o107 s P) .nil .nil) (.node (o139 s P) .nil .nil)) (.node (o88 s P) (.node (o123 s P) .nil .nil) .nil)) (.node (o64 s P) (.node (o80 s P) (.node (o115 s P) .nil .nil) .nil) (.node (o99 s P) (.node (o131 s P) .nil .nil) .nil)))) (.node (PySem.W.boot_o_5 P) (.node (PySem.W.boot_o_9 P) (.node (o54 s P) (.node (o70 s P) (.node (o105 s P) .nil .nil) (.node (o137 s P) .nil .nil)) (.node (o86 s P) (.node (o121 s P) .nil .nil) .nil)) (.node (o62 s P) (.node (o78 s P) (.node (o113 s P) .nil .nil) (.node (o145 s P) .nil .nil)) (.node (o94 s P) (.node (o129 s P) .nil .nil) .nil))) (.node (o45 s P) (.node (o58 s P) (.node (o74 s P) (.node (o109 s P) .nil .nil) (.node (o141 s P) .nil .nil)) (.node (o90 s P) (.node (o125 s P) .nil .nil) .nil)) (.node (o66 s P) (.node (o82 s P) (.node (o117 s P) .nil .nil) .nil) (.node (o101 s P) (.node (o133 s P) .nil .nil) .nil))))) (.node (o96 s P) (.node (PySem.W.boot_o_4 P) (.node (PySem.W.boot_o_8 P) (.node (o53 s P) (.node (o69 s P) (.node (o104 s P) .nil .nil) (.node (o136 s P) .nil .nil)) (.node (o85 s P) (.node (o120 s P) .nil .nil) .nil)) (.node (o61 s P) (.node (o77 s P) (.node (o112 s P) .nil .nil) (.node (o144 s P) .nil .nil)) (.node (o93 s P) (.node (o128 s P) .nil .nil) .nil))) (.node (o98 s P) (.node (o57 s P) (.node (o73 s P) (.node (o108 s P) .nil .nil) (.node (o140 s P) .nil .nil)) (.node (o89 s P) (.node (o124 s P) .nil .nil) .nil)) (.node (o65 s P) (.node (o81 s P) (.node (o116 s P) .nil .nil) .nil) (.node (o100 s P) (.node (o132 s P) .nil .nil) .nil)))) (.node (PySem.W.boot_o_6 P) (.node (PySem.W.boot_o_10 P) (.node (o55 s P) (.node (o71 s P) (.node (o106 s P) .nil .nil) (.node (o138 s P) .nil .nil)) (.node (o87 s P) (.node (o122 s P) .nil .nil) .nil)) (.node (o63 s P) (.node (o79 s P) (.node (o114 s P) .nil .nil) (.node (o146 s P) .nil .nil)) (.node (o95 s P) (.node (o130 s P) .nil .nil) .nil))) (.node (o46 s P) (.node (o59 s P) (.node (o75 s P) (.node (o110 s P) .nil .nil) (.node (o142 s P) .nil .nil)) (.node (o91 s P) (.node (o126 s P) .nil .nil) .nil)) (.node (o67 s P) (.node (o83 s P) (.node (o118 s P) .nil .nil) .nil) (.node (o102 s P) (.node (o134 s P) .nil .nil) .nil))))))
noncomputable def o147 (s : T8) (P : Params) : PySem.Obj := ⟨(.type "dict"),none,(.dict (List.toArray (⟨(PySem.PyData.keyHash P (a0 s)),(.str (a0 s) 165),(.str (a87 s) 418)⟩::⟨(PySem.PyData.keyHash P (a184 s)),(.str (a184 s) 166),.none⟩::⟨(PySem.PyData.keyHash P (a185 s)),(.str (a185 s) 167),.none⟩::⟨(PySem.PyData.keyHash P (a186 s)),(.str (a186 s) 168),(.builtin "__main__.__loader__#opaque")⟩::⟨(PySem.PyData.keyHash P (a187 s)),(.str (a187 s) 169),.none⟩::⟨(PySem.PyData.keyHash P (a188 s)),(.str (a188 s) 170),(.ref 6)⟩::⟨(PySem.PyData.keyHash P (a189 s)),(.str (a189 s) 171),(.ref 4)⟩::⟨(PySem.PyData.keyHash P (a190 s)),(.str (a190 s) 173),(.str (a180 s) 172)⟩::⟨(PySem.PyData.keyHash P (a191 s)),(.str (a191 s) 174),.none⟩::⟨(PySem.PyData.keyHash P (a7 s)),(.str (a7 s) 195),(.ref 21)⟩::⟨(PySem.PyData.keyHash P (a9 s)),(.str (a9 s) 199),(.int 99 198)⟩::⟨(PySem.PyData.keyHash P (a16 s)),(.str (a16 s) 233),(.ref 41)⟩::⟨(PySem.PyData.keyHash P (a21 s)),(.str (a21 s) 242),(.ref 51)⟩::⟨(PySem.PyData.keyHash P (a26 s)),(.str (a26 s) 253),(.ref 58)⟩::⟨(PySem.PyData.keyHash P (a35 s)),(.str (a35 s) 265),(.ref 65)⟩::⟨(PySem.PyData.keyHash P (a37 s)),(.str (a37 s) 269),(.str (a38 s) 268)⟩::⟨(PySem.PyData.keyHash P (a39 s)),(.str (a39 s) 271),(.str (a40 s) 270)⟩::⟨(PySem.PyData.keyHash P (a41 s)),(.str (a41 s) 291),(.ref 75)⟩::⟨(PySem.PyData.keyHash P (a45 s)),(.str (a45 s) 299),(.ref 85)⟩::⟨(PySem.PyData.keyHash P (a49 s)),(.str (a49 s) 308),(.ref 92)⟩::⟨(PySem.PyData.keyHash P (a52 s)),(.str (a52 s) 318),(.ref 99)⟩::⟨(PySem.PyData.keyHash P (a56 s)),(.str (a56 s) 331),(.ref 106)⟩::⟨(PySem.PyData.keyHash P (a59 s)),(.str (a59 s) 340),(.ref 113)⟩::⟨(PySem.PyData.keyHash P (a64 s)),(.str (a64 s) 355),(.ref 120)⟩::⟨(PySem.PyData.keyHash P (a68 s)),(.str (a68 s) 362),(.ref 127)⟩::⟨(PySem.PyData.keyHash P (a72 s)),(.str (a72 s) 371),(.ref 134)⟩::⟨(PySem.PyData.keyHash P (a73 s)),(.str (a73 s) 383),(.ref 141)⟩::⟨(PySem.PyData.keyHash P (a75 s)),(.str (a75 s) 392),(.ref 148)⟩::⟨(PySem.PyData.keyHash P (a81 s)),(.str (a81 s) 404),(.ref 155)⟩::⟨(PySem.PyData.keyHash P (a86 s)),(.str (a86 s) 417),(.ref 162)⟩::⟨(PySem.PyData.keyHash P (a88 s)),(.str (a88 s) 422),(.ref 163)⟩::⟨(PySem.PyData.keyHash P (a89 s)),(.str (a89 s) 424),(.int 300 423)⟩::⟨(PySem.PyData.keyHash P (a90 s)),(.str (a90 s) 426),(.int 9999 425)⟩::⟨(PySem.PyData.keyHash P (a91 s)),(.str (a91 s) 428),(.str (a40 s) 427)⟩::⟨(PySem.PyData.keyHash P (a96 s)),(.str (a96 s) 438),(.ref 170)⟩::⟨(PySem.PyData.keyHash P (a101 s)),(.str (a101 s) 451),(.ref 177)⟩::[])) 36),#[]⟩
noncomputable def sts147 (s : T8) : List PySem.Stmt := ((d49 s)::(d54 s)::(d58 s)::(d63 s)::(d67 s)::(d71 s)::(d75 s)::(d76 s)::(d80 s)::(d81 s)::(d82 s)::(d83 s)::(d84 s)::(d85 s)::(d89 s)::(d93 s)::[])
noncomputable def o148 (s : T8) (P : Params) : PySem.Obj := ⟨.none,none,(.fields (List.toArray ((.int 2 0)::(.int 0 0)::(.ref 20)::(.int 7 0)::(.int 0 0)::(.ref 28)::(.int 13 0)::(.int 0 0)::(.ref 50)::(.int 19 0)::(.int 0 0)::(.ref 57)::(.int 29 0)::(.int 0 0)::(.ref 64)::(.int 47 0)::(.int 0 0)::(.ref 71)::(.int 49 0)::(.int 0 0)::(.ref 84)::(.int 53 0)::(.int 0 0)::(.ref 91)::(.int 58 0)::(.int 0 0)::(.ref 98)::(.int 66 0)::(.int 0 0)::(.ref 105)::(.int 76 0)::(.int 0 0)::(.ref 112)::(.int 80 0)::(.int 0 0)::(.ref 119)::(.int 91 0)::(.int 0 0)::(.ref 126)::(.int 95 0)::(.int 0 0)::(.ref 133)::(.int 99 0)::(.int 0 0)::(.ref 140)::(.int 110 0)::(.int 0 0)::(.ref 147)::(.int 115 0)::(.int 0 0)::(.ref 154)::(.int 125 0)::(.int 0 0)::(.ref 161)::(.int 141 0)::(.int 0 0)::(.ref 169)::(.int 147 0)::(.int 0 0)::(.ref 176)::[]))),#[]⟩
noncomputable def o149 (s : T8) (P : Params) : PySem.Obj := ⟨(.type "tuple"),none,(.seq #[] 0),#[]⟩
noncomputable def o150 (s : T8) (P : Params) : PySem.Obj := ⟨.none,none,(.fields #[]),#[]⟩
noncomputable def o151 (s : T8) (P : Params) : PySem.Obj := ⟨(.type "tuple"),none,(.seq #[(.str (a54 s) 335),(.str (a57 s) 336),(.str (a58 s) 337)] 0),#[]⟩
noncomputable def o152 (s : T8) (P : Params) : PySem.Obj := ⟨(.type "tuple"),none,(.seq #[] 0),#[]⟩
noncomputable def o153 (s : T8) (P : Params) : PySem.Obj := ⟨.none,none,(.func ⟨(a59 s),(a59 s),(d46 s),(.stmts (d47 s)),(d48 s),0,[],.none,.none,.none,.none,none,.none,.none,0⟩),#[]⟩
noncomputable def o154 (s : T8) (P : Params) : PySem.Obj := ⟨(.type "code"),none,(.fields (List.toArray ((.str (a59 s) 332)::(.str (a59 s) 333)::(.str (a180 s) 334)::(.int 76 0)::(.int 3 0)::(.int 0 0)::(.int 0 0)::(.int 3 0)::(.ref 107)::(.bool true)::(.int 181 0)::(.ref 108)::.none::(.ref 109)::(.ref 110)::(.ref 111)::(.int 338 0)::(.int 76 0)::(.str (a180 s) 339)::[]))),#[]⟩
noncomputable def o155 (s : T8) (P : Params) : PySem.Obj := ⟨(.type "function"),none,(.func ⟨(a59 s),(a59 s),(d46 s),(.stmts (d47 s)),(d48 s),3,[],.none,.none,.none,(.str (a36 s) 266),none,(.ref 112),.none,0⟩),#[]⟩
noncomputable def o156 (s : T8) (P : Params) : PySem.Obj := ⟨(.type "tuple"),none,(.seq #[] 0),#[]⟩
noncomputable def o157 (s : T8) (P : Params) : PySem.Obj := ⟨.none,none,(.fields #[]),#[]⟩
noncomputable def o158 (s : T8) (P : Params) : PySem.Obj := ⟨(.type "tuple"),none,(.seq #[(.str (a60 s) 344),(.str (a42 s) 345),(.str (a58 s) 346),(.str (a61 s) 347),(.str (a24 s) 348),(.str (a54 s) 349),(.str (a55 s) 350),(.str (a57 s) 351),(.str (a63 s) 352)] 0),#[]⟩
noncomputable def o159 (s : T8) (P : Params) : PySem.Obj := ⟨(.type "tuple"),none,(.seq #[] 0),#[]⟩
noncomputable def o160 (s : T8) (P : Params) : PySem.Obj := ⟨.none,none,(.func ⟨(a64 s),(a64 s),(d50 s),(.stmts (d51 s)),(d53 s),0,[],.none,.none,.none,.none,none,.none,.none,0⟩),#[]⟩
noncomputable def o161 (s : T8) (P : Params) : PySem.Obj := ⟨(.type "code"),none,(.fields (List.toArray ((.str (a64 s) 341)::(.str (a64 s) 342)::(.str (a180 s) 343)::(.int 80 0)::(.int 3 0)::(.int 0 0)::(.int 0 0)::(.int 3 0)::(.ref 114)::(.bool true)::(.int 181 0)::(.ref 115)::.none::(.ref 116)::(.ref 117)::(.ref 118)::(.int 353 0)::(.int 80 0)::(.str (a180 s) 354)::[]))),#[]⟩
noncomputable def o162 (s : T8) (P : Params) : PySem.Obj := ⟨(.type "function"),none,(.func ⟨(a64 s),(a64 s),(d50 s),(.stmts (d51 s)),(d53 s),3,[],.none,.none,.none,(.str (a36 s) 266),none,(.ref 119),.none,0⟩),#[]⟩
noncomputable def o163 (s : T8) (P : Params) : PySem.Obj := ⟨(.type "tuple"),none,(.seq #[] 0),#[]⟩
noncomputable def o164 (s : T8) (P : Params) : PySem.Obj := ⟨.none,none,(.fields #[]),#[]⟩
noncomputable def o165 (s : T8) (P : Params) : PySem.Obj := ⟨(.type "tuple"),none,(.seq #[(.str (a65 s) 359)] 0),#[]⟩
noncomputable def o166 (s : T8) (P : Params) : PySem.Obj := ⟨(.type "tuple"),none,(.seq #[] 0),#[]⟩
noncomputable def o167 (s : T8) (P : Params) : PySem.Obj := ⟨.none,none,(.func ⟨(a68 s),(a68 s),(d55 s),(.stmts (d56 s)),(d57 s),0,[],.none,.none,.none,.none,none,.none,.none,0⟩),#[]⟩
noncomputable def o168 (s : T8) (P : Params) : PySem.Obj := ⟨(.type "code"),none,(.fields (List.toArray ((.str (a68 s) 356)::(.str (a68 s) 357)::(.str (a180 s) 358)::(.int 91 0)::(.int 1 0)::(.int 0 0)::(.int 0 0)::(.int 3 0)::(.ref 121)::(.bool true)::(.int 181 0)::(.ref 122)::.none::(.ref 123)::(.ref 124)::(.ref 125)::(.int 360 0)::(.int 91 0)::(.str (a180 s) 361)::[]))),#[]⟩
noncomputable def o169 (s : T8) (P : Params) : PySem.Obj := ⟨(.type "function"),none,(.func ⟨(a68 s),(a68 s),(d55 s),(.stmts (d56 s)),(d57 s),3,[],.none,.none,.none,(.str (a36 s) 266),none,(.ref 126),.none,0⟩),#[]⟩
noncomputable def o170 (s : T8) (P : Params) : PySem.Obj := ⟨(.type "tuple"),none,(.seq #[] 0),#[]⟩
noncomputable def o171 (s : T8) (P : Params) : PySem.Obj := ⟨.none,none,(.fields #[]),#[]⟩
noncomputable def o172 (s : T8) (P : Params) : PySem.Obj := ⟨(.type "tuple"),none,(.seq #[(.str (a65 s) 366),(.str (a69 s) 367),(.str (a70 s) 368)] 0),#[]⟩
noncomputable def o173 (s : T8) (P : Params) : PySem.Obj := ⟨(.type "tuple"),none,(.seq #[] 0),#[]⟩
noncomputable def o174 (s : T8) (P : Params) : PySem.Obj := ⟨.none,none,(.func ⟨(a72 s),(a72 s),(d59 s),(.stmts (d60 s)),(d62 s),0,[],.none,.none,.none,.none,none,.none,.none,0⟩),#[]⟩
noncomputable def o175 (s : T8) (P : Params) : PySem.Obj := ⟨(.type "code"),none,(.fields (List.toArray ((.str (a72 s) 363)::(.str (a72 s) 364)::(.str (a180 s) 365)::(.int 95 0)::(.int 3 0)::(.int 0 0)::(.int 0 0)::(.int 3 0)::(.ref 128)::(.bool true)::(.int 181 0)::(.ref 129)::.none::(.ref 130)::(.ref 131)::(.ref 132)::(.int 369 0)::(.int 95 0)::(.str (a180 s) 370)::[]))),#[]⟩
noncomputable def o176 (s : T8) (P : Params) : PySem.Obj := ⟨(.type "function"),none,(.func ⟨(a72 s),(a72 s),(d59 s),(.stmts (d60 s)),(d62 s),3,[],.none,.none,.none,(.str (a36 s) 266),none,(.ref 133),.none,0⟩),#[]⟩
noncomputable def o177 (s : T8) (P : Params) : PySem.Obj := ⟨(.type "tuple"),none,(.seq #[] 0),#[]⟩
noncomputable def o178 (s : T8) (P : Params) : PySem.Obj := ⟨.none,none,(.fields #[]),#[]⟩
noncomputable def o179 (s : T8) (P : Params) : PySem.Obj := ⟨(.type "tuple"),none,(.seq #[(.str (a65 s) 375),(.str (a69 s) 376),(.str (a70 s) 377),(.str (a60 s) 378),(.str (a58 s) 379),(.str (a24 s) 380)] 0),#[]⟩
noncomputable def o180 (s : T8) (P : Params) : PySem.Obj := ⟨(.type "tuple"),none,(.seq #[] 0),#[]⟩
noncomputable def o181 (s : T8) (P : Params) : PySem.Obj := ⟨.none,none,(.func ⟨(a73 s),(a73 s),(d64 s),(.stmts (d65 s)),(d66 s),0,[],.none,.none,.none,.none,none,.none,.none,0⟩),#[]⟩
noncomputable def o182 (s : T8) (P : Params) : PySem.Obj := ⟨(.type "code"),none,(.fields (List.toArray ((.str (a73 s) 372)::(.str (a73 s) 373)::(.str (a180 s) 374)::(.int 99 0)::(.int 5 0)::(.int 0 0)::(.int 0 0)::(.int 3 0)::(.ref 135)::(.bool true)::(.int 181 0)::(.ref 136)::.none::(.ref 137)::(.ref 138)::(.ref 139)::(.int 381 0)::(.int 99 0)::(.str (a180 s) 382)::[]))),#[]⟩
noncomputable def o183 (s : T8) (P : Params) : PySem.Obj := ⟨(.type "function"),none,(.func ⟨(a73 s),(a73 s),(d64 s),(.stmts (d65 s)),(d66 s),3,[],.none,.none,.none,(.str (a36 s) 266),none,(.ref 140),.none,0⟩),#[]⟩
noncomputable def o184 (s : T8) (P : Params) : PySem.Obj := ⟨(.type "tuple"),none,(.seq #[] 0),#[]⟩
noncomputable def o185 (s : T8) (P : Params) : PySem.Obj := ⟨.none,none,(.fields #[]),#[]⟩
noncomputable def o186 (s : T8) (P : Params) : PySem.Obj := ⟨(.type "tuple"),none,(.seq #[(.str (a74 s) 387),(.str (a24 s) 388),(.str (a46 s) 389)] 0),#[]⟩
noncomputable def o187 (s : T8) (P : Params) : PySem.Obj := ⟨(.type "tuple"),none,(.seq #[] 0),#[]⟩
noncomputable def o188 (s : T8) (P : Params) : PySem.Obj := ⟨.none,none,(.func ⟨(a75 s),(a75 s),(d68 s),(.stmts (d69 s)),(d70 s),0,[],.none,.none,.none,.none,none,.none,.none,0⟩),#[]⟩
noncomputable def o189 (s : T8) (P : Params) : PySem.Obj := ⟨(.type "code"),none,(.fields (List.toArray ((.str (a75 s) 384)::(.str (a75 s) 385)::(.str (a180 s) 386)::(.int 110 0)::(.int 1 0)::(.int 0 0)::(.int 0 0)::(.int 3 0)::(.ref 142)::(.bool true)::(.int 181 0)::(.ref 143)::.none::(.ref 144)::(.ref 145)::(.ref 146)::(.int 390 0)::(.int 110 0)::(.str (a180 s) 391)::[]))),#[]⟩
noncomputable def o190 (s : T8) (P : Params) : PySem.Obj := ⟨(.type "function"),none,(.func ⟨(a75 s),(a75 s),(d68 s),(.stmts (d69 s)),(d70 s),3,[],.none,.none,.none,(.str (a36 s) 266),none,(.ref 147),.none,0⟩),#[]⟩
noncomputable def o191 (s : T8) (P : Params) : PySem.Obj := ⟨(.type "tuple"),none,(.seq #[] 0),#[]⟩
noncomputable def o192 (s : T8) (P : Params) : PySem.Obj := ⟨.none,none,(.fields #[]),#[]⟩
noncomputable def o193 (s : T8) (P : Params) : PySem.Obj := ⟨(.type "tuple"),none,(.seq #[(.str (a65 s) 396),(.str (a57 s) 397),(.str (a58 s) 398),(.str (a79 s) 399),(.str (a74 s) 400),(.str (a63 s) 401)] 0),#[]⟩
noncomputable def o194 (s : T8) (P : Params) : PySem.Obj := ⟨(.type "tuple"),none,(.seq #[] 0),#[]⟩
noncomputable def o195 (s : T8) (P : Params) : PySem.Obj := ⟨.none,none,(.func ⟨(a81 s),(a81 s),(d72 s),(.stmts (d73 s)),(d74 s),0,[],.none,.none,.none,.none,none,.none,.none,0⟩),#[]⟩
noncomputable def o196 (s : T8) (P : Params) : PySem.Obj := ⟨(.type "code"),none,(.fields (List.toArray ((.str (a81 s) 393)::(.str (a81 s) 394)::(.str (a180 s) 395)::(.int 115 0)::(.int 3 0)::(.int 0 0)::(.int 0 0)::(.int 3 0)::(.ref 149)::(.bool true)::(.int 181 0)::(.ref 150)::.none::(.ref 151)::(.ref 152)::(.ref 153)::(.int 402 0)::(.int 115 0)::(.str (a180 s) 403)::[]))),#[]⟩
noncomputable def o197 (s : T8) (P : Params) : PySem.Obj := ⟨(.type "function"),none,(.func ⟨(a81 s),(a81 s),(d72 s),(.stmts (d73 s)),(d74 s),3,[],.none,.none,.none,(.str (a36 s) 266),none,(.ref 154),.none,0⟩),#[]⟩
noncomputable def o198 (s : T8) (P : Params) : PySem.Obj := ⟨(.type "tuple"),none,(.seq #[] 0),#[]⟩
noncomputable def o199 (s : T8) (P : Params) : PySem.Obj := ⟨.none,none,(.fields #[]),#[]⟩
noncomputable def o200 (s : T8) (P : Params) : PySem.Obj := ⟨(.type "tuple"),none,(.seq #[(.str (a42 s) 410),(.str (a24 s) 411),(.str (a83 s) 412),(.str (a55 s) 413),(.str (a84 s) 414)] 0),#[]⟩
noncomputable def o201 (s : T8) (P : Params) : PySem.Obj := ⟨(.type "tuple"),none,(.seq #[] 0),#[]⟩
noncomputable def o202 (s : T8) (P : Params) : PySem.Obj := ⟨.none,none,(.func ⟨(a86 s),(a86 s),(d77 s),(.stmts (d78 s)),(d79 s),0,[],.none,.none,.none,.none,none,.none,.none,0⟩),#[]⟩
noncomputable def o203 (s : T8) (P : Params) : PySem.Obj := ⟨(.type "code"),none,(.fields (List.toArray ((.str (a86 s) 407)::(.str (a86 s) 408)::(.str (a180 s) 409)::(.int 125 0)::(.int 1 0)::(.int 0 0)::(.int 0 0)::(.int 3 0)::(.ref 156)::(.bool true)::(.int 181 0)::(.ref 157)::.none::(.ref 158)::(.ref 159)::(.ref 160)::(.int 415 0)::(.int 125 0)::(.str (a180 s) 416)::[]))),#[]⟩
noncomputable def o204 (s : T8) (P : Params) : PySem.Obj := ⟨(.type "function"),none,(.func ⟨(a86 s),(a86 s),(d77 s),(.stmts (d78 s)),(d79 s),3,[],.none,.none,.none,(.str (a82 s) 405),none,(.ref 161),.none,0⟩),#[]⟩
noncomputable def o205 (s : T8) (P : Params) : PySem.Obj := ⟨(.type "tuple"),none,(.seq #[(.int 0 420),(.int 0 421)] 0),#[]⟩
noncomputable def o206 (s : T8) (P : Params) : PySem.Obj := ⟨(.type "tuple"),none,(.seq #[] 0),#[]⟩
noncomputable def o207 (s : T8) (P : Params) : PySem.Obj := ⟨.none,none,(.fields #[]),#[]⟩
noncomputable def o208 (s : T8) (P : Params) : PySem.Obj := ⟨(.type "tuple"),none,(.seq #[(.str (a42 s) 432),(.str (a43 s) 433),(.str (a24 s) 434),(.str (a92 s) 435)] 0),#[]⟩
noncomputable def o209 (s : T8) (P : Params) : PySem.Obj := ⟨(.type "tuple"),none,(.seq #[] 0),#[]⟩
noncomputable def o210 (s : T8) (P : Params) : PySem.Obj := ⟨.none,none,(.func ⟨(a96 s),(a96 s),(d86 s),(.stmts (d87 s)),(d88 s),0,[],.none,.none,.none,.none,none,.none,.none,0⟩),#[]⟩
noncomputable def o211 (s : T8) (P : Params) : PySem.Obj := ⟨(.type "code"),none,(.fields (List.toArray ((.str (a96 s) 429)::(.str (a96 s) 430)::(.str (a180 s) 431)::(.int 141 0)::(.int 2 0)::(.int 0 0)::(.int 0 0)::(.int 3 0)::(.ref 164)::(.bool true)::(.int 181 0)::(.ref 165)::.none::(.ref 166)::(.ref 167)::(.ref 168)::(.int 436 0)::(.int 141 0)::(.str (a180 s) 437)::[]))),#[]⟩
noncomputable def o212 (s : T8) (P : Params) : PySem.Obj := ⟨(.type "function"),none,(.func ⟨(a96 s),(a96 s),(d86 s),(.stmts (d87 s)),(d88 s),3,[],.none,.none,.none,(.str (a87 s) 418),none,(.ref 169),.none,0⟩),#[]⟩
noncomputable def o213 (s : T8) (P : Params) : PySem.Obj := ⟨(.type "tuple"),none,(.seq #[] 0),#[]⟩
noncomputable def o214 (s : T8) (P : Params) : PySem.Obj := ⟨.none,none,(.fields #[]),#[]⟩
noncomputable def o215 (s : T8) (P : Params) : PySem.Obj := ⟨(.type "tuple"),none,(.seq #[(.str (a42 s) 442),(.str (a43 s) 443),(.str (a92 s) 444),(.str (a84 s) 445),(.str (a24 s) 446),(.str (a19 s) 447),(.str (a46 s) 448)] 0),#[]⟩
noncomputable def o216 (s : T8) (P : Params) : PySem.Obj := ⟨(.type "tuple"),none,(.seq #[] 0),#[]⟩
noncomputable def o217 (s : T8) (P : Params) : PySem.Obj := ⟨.none,none,(.func ⟨(a101 s),(a101 s),(d90 s),(.stmts (d91 s)),(d92 s),0,[],.none,.none,.none,.none,none,.none,.none,0⟩),#[]⟩
noncomputable def o218 (s : T8) (P : Params) : PySem.Obj := ⟨(.type "code"),none,(.fields (List.toArray ((.str (a101 s) 439)::(.str (a101 s) 440)::(.str (a180 s) 441)::(.int 147 0)::(.int 2 0)::(.int 0 0)::(.int 0 0)::(.int 3 0)::(.ref 171)::(.bool true)::(.int 181 0)::(.ref 172)::.none::(.ref 173)::(.ref 174)::(.ref 175)::(.int 449 0)::(.int 147 0)::(.str (a180 s) 450)::[]))),#[]⟩
noncomputable def o219 (s : T8) (P : Params) : PySem.Obj := ⟨(.type "function"),none,(.func ⟨(a101 s),(a101 s),(d90 s),(.stmts (d91 s)),(d92 s),3,[],.none,.none,.none,(.str (a87 s) 418),none,(.ref 176),.none,0⟩),#[]⟩
noncomputable def tree219 (s : T8) (P : Params) : PySem.W.BT := (.node (PySem.W.boot_o_0 P) (.node (PySem.W.boot_o_1 P) (.node (o147 s P) (.node (PySem.W.boot_o_7 P) (.node (o52 s P) (.node (o68 s P) (.node (o103 s P) (.node (o169 s P) .nil .nil) .nil) (.node (o135 s P) (.node (o201 s P) .nil .nil) .nil)) (.node (o84 s P) (.node (o119 s P) (.node (o185 s P) .nil .nil) .nil) (.node (o153 s P) (.node (o217 s P) .nil .nil) .nil))) (.node (o60 s P) (.node (o76 s P) (.node (o111 s P) (.node (o177 s P) .nil .nil) .nil) (.node (o143 s P) (.node (o209 s P) .nil .nil) .nil)) (.node (o92 s P) (.node (o127 s P) (.node (o193 s P) .nil .nil) .nil) (.node (o161 s P) .nil .nil)))) (.node (o43 s P) (.node (o56 s P) (.node (o72 s P) (.node (o107 s P) (.node (o173 s P) .nil .nil) .nil) (.node (o139 s P) (.node (o205 s P) .nil .nil) .nil)) (.node (o88 s P) (.node (o123 s P) (.node (o189 s P) .nil .nil) .nil) (.node (o157 s P) .nil .nil))) (.node (o64 s P) (.node (o80 s P) (.node (o115 s P) (.node (o181 s P) .nil .nil) .nil) (.node (o149 s P) (.node (o213 s P) .nil .nil) .nil)) (.node (o99 s P) (.node (o131 s P) (.node (o197 s P) .nil .nil) .nil) (.node (o165 s P) .nil .nil))))) (.node (PySem.W.boot_o_5 P) (.node (PySem.W.boot_o_9 P) (.node (o54 s P) (.node (o70 s P) (.node (o105 s P) (.node (o171 s P) .nil .nil) .nil) (.node (o137 s P) (.node (o203 s P) .nil .nil) .nil)) (.node (o86 s P) (.node (o121 s P) (.node (o187 s P) .nil .nil) .nil) (.node (o155 s P) (.node (o219 s P) .nil .nil) .nil))) (.node (o62 s P) (.node (o78 s P) (.node (o113 s P) (.node (o179 s P) .nil .nil) .nil) (.node (o145 s P) (.node (o211 s P) .nil .nil) .nil)) (.node (o94 s P) (.node (o129 s P) (.node (o195 s P) .nil .nil) .nil) (.node (o163 s P) .nil .nil)))) (.node (o45 s P) (.node (o58 s P) (.node (o74 s P) (.node (o109 s P) (.node (o175 s P) .nil .nil) .nil) (.node (o141 s P) (.node (o207 s P) .nil .nil) .nil)) (.node (o90 s P) (.node (o125 s P) (.node (o191 s P) .nil .nil) .nil) (.node (o159 s P) .nil .nil))) (.node (o66 s P) (.node (o82 s P) (.node (o117 s P) (.node (o183 s P) .nil .nil) .nil) (.node (o151 s P) (.node (o215 s P) .nil .nil) .nil)) (.node (o101 s P) (.node (o133 s P) (.node (o199 s P) .nil .nil) .nil) (.node (o167 s P) .nil .nil)))))) (.node (o96 s P) (.node (PySem.W.boot_o_4 P) (.node (PySem.W.boot_o_8 P) (.node (o53 s P) (.node (o69 s P) (.node (o104 s P) (.node (o170 s P) .nil .nil) .nil) (.node (o136 s P) (.node (o202 s P) .nil .nil) .nil)) (.node (o85 s P) (.node (o120 s P) (.node (o186 s P) .nil .nil) .nil) (.node (o154 s P) (.node (o218 s P) .nil .nil) .nil))) (.node (o61 s P) (.node (o77 s P) (.node (o112 s P) (.node (o178 s P) .nil .nil) .nil) (.node (o144 s P) (.node (o210 s P) .nil .nil) .nil)) (.node (o93 s P) (.node (o128 s P) (.node (o194 s P) .nil .nil) .nil) (.node (o162 s P) .nil .nil)))) (.node (o148 s P) (.node (o57 s P) (.node (o73 s P) (.node (o108 s P) (.node (o174 s P) .nil .nil) .nil) (.node (o140 s P) (.node (o206 s P) .nil .nil) .nil)) (.node (o89 s P) (.node (o124 s P) (.node (o190 s P) .nil .nil) .nil) (.node (o158 s P) .nil .nil))) (.node (o65 s P) (.node (o81 s P) (.node (o116 s P) (.node (o182 s P) .nil .nil) .nil) (.node (o150 s P) (.node (o214 s P) .nil .nil) .nil)) (.node (o100 s P) (.node (o132 s P) (.node (o198 s P) .nil .nil) .nil) (.node (o166 s P) .nil .nil))))) (.node (PySem.W.boot_o_6 P) (.node (PySem.W.boot_o_10 P) (.node (o55 s P) (.node (o71 s P) (.node (o106 s P) (.node (o172 s P) .nil .nil) .nil) (.node (o138 s P) (.node (o204 s P) .nil .nil) .nil)) (.node (o87 s P) (.node (o122 s P) (.node (o188 s P) .nil .nil) .nil) (.node (o156 s P) .nil .nil))) (.node (o63 s P) (.node (o79 s P) (.node (o114 s P) (.node (o180 s P) .nil .nil) .nil) (.node (o146 s P) (.node (o212 s P) .nil .nil) .nil)) (.node (o95 s P) (.node (o130 s P) (.node (o196 s P) .nil .nil) .nil) (.node (o164 s P) .nil .nil)))) (.node (o46 s P) (.node (o59 s P) (.node (o75 s P) (.node (o110 s P) (.node (o176 s P) .nil .nil) .nil) (.node (o142 s P) (.node (o208 s P) .nil .nil) .nil)) (.node (o91 s P) (.node (o126 s P) (.node (o192 s P) .nil .nil) .nil) (.node (o160 s P) .nil .nil))) (.node (o67 s P) (.node (o83 s P) (.node (o118 s P) (.node (o184 s P) .nil .nil) .nil) (.node (o152 s P) (.node (o216 s P) .nil .nil) .nil)) (.node (o102 s P) (.node (o134 s P) (.node (o200 s P) .nil .nil) .nil) (.node (o168 s P) .nil .nil)))))))
noncomputable def o220 (s : T8) (P : Params) : PySem.Obj := ⟨(.type "dict"),none,(.dict (List.toArray (⟨(PySem.PyData.keyHash P (a0 s)),(.str (a0 s) 165),(.str (a134 s) 556)⟩::⟨(PySem.PyData.keyHash P (a184 s)),(.str (a184 s) 166),.none⟩::⟨(PySem.PyData.keyHash P (a185 s)),(.str (a185 s) 167),.none⟩::⟨(PySem.PyData.keyHash P (a186 s)),(.str (a186 s) 168),(.builtin "__main__.__loader__#opaque")⟩::⟨(PySem.PyData.keyHash P (a187 s)),(.str (a187 s) 169),.none⟩::⟨(PySem.PyData.keyHash P (a188 s)),(.str (a188 s) 170),(.ref 6)⟩::⟨(PySem.PyData.keyHash P (a189 s)),(.str (a189 s) 171),(.ref 4)⟩::⟨(PySem.PyData.keyHash P (a190 s)),(.str (a190 s) 173),(.str (a180 s) 172)⟩::⟨(PySem.PyData.keyHash P (a191 s)),(.str (a191 s) 174),.none⟩::⟨(PySem.PyData.keyHash P (a7 s)),(.str (a7 s) 195),(.ref 21)⟩::⟨(PySem.PyData.keyHash P (a9 s)),(.str (a9 s) 199),(.int 99 198)⟩::⟨(PySem.PyData.keyHash P (a16 s)),(.str (a16 s) 233),(.ref 41)⟩::⟨(PySem.PyData.keyHash P (a21 s)),(.str (a21 s) 242),(.ref 51)⟩::⟨(PySem.PyData.keyHash P (a26 s)),(.str (a26 s) 253),(.ref 58)⟩::⟨(PySem.PyData.keyHash P (a35 s)),(.str (a35 s) 265),(.ref 65)⟩::⟨(PySem.PyData.keyHash P (a37 s)),(.str (a37 s) 269),(.str (a38 s) 268)⟩::⟨(PySem.PyData.keyHash P (a39 s)),(.str (a39 s) 271),(.str (a40 s) 270)⟩::⟨(PySem.PyData.keyHash P (a41 s)),(.str (a41 s) 291),(.ref 75)⟩::⟨(PySem.PyData.keyHash P (a45 s)),(.str (a45 s) 299),(.ref 85)⟩::⟨(PySem.PyData.keyHash P (a49 s)),(.str (a49 s) 308),(.ref 92)⟩::⟨(PySem.PyData.keyHash P (a52 s)),(.str (a52 s) 318),(.ref 99)⟩::⟨(PySem.PyData.keyHash P (a56 s)),(.str (a56 s) 331),(.ref 106)⟩::⟨(PySem.PyData.keyHash P (a59 s)),(.str (a59 s) 340),(.ref 113)⟩::⟨(PySem.PyData.keyHash P (a64 s)),(.str (a64 s) 355),(.ref 120)⟩::⟨(PySem.PyData.keyHash P (a68 s)),(.str (a68 s) 362),(.ref 127)⟩::⟨(PySem.PyData.keyHash P (a72 s)),(.str (a72 s) 371),(.ref 134)⟩::⟨(PySem.PyData.keyHash P (a73 s)),(.str (a73 s) 383),(.ref 141)⟩::⟨(PySem.PyData.keyHash P (a75 s)),(.str (a75 s) 392),(.ref 148)⟩::⟨(PySem.PyData.keyHash P (a81 s)),(.str (a81 s) 404),(.ref 155)⟩::⟨(PySem.PyData.keyHash P (a86 s)),(.str (a86 s) 417),(.ref 162)⟩::⟨(PySem.PyData.keyHash P (a88 s)),(.str (a88 s) 422),(.ref 163)⟩::⟨(PySem.PyData.keyHash P (a89 s)),(.str (a89 s) 424),(.int 300 423)⟩::⟨(PySem.PyData.keyHash P (a90 s)),(.str (a90 s) 426),(.int 9999 425)⟩::⟨(PySem.PyData.keyHash P (a91 s)),(.str (a91 s) 428),(.str (a40 s) 427)⟩::⟨(PySem.PyData.keyHash P (a96 s)),(.str (a96 s) 438),(.ref 170)⟩::⟨(PySem.PyData.keyHash P (a101 s)),(.str (a101 s) 451),(.ref 177)⟩::⟨(PySem.PyData.keyHash P (a107 s)),(.str (a107 s) 467),(.ref 184)⟩::⟨(PySem.PyData.keyHash P (a106 s)),(.str (a106 s) 477),(.ref 191)⟩::⟨(PySem.PyData.keyHash P (a111 s)),(.str (a111 s) 488),(.ref 198)⟩::⟨(PySem.PyData.keyHash P (a133 s)),(.str (a133 s) 555),(.ref 216)⟩::[])) 40),#[]⟩
noncomputable def sts220 (s : T8) : List PySem.Stmt := [(d97 s),(d101 s),(d102 s),(d106 s),(d107 s),(d111 s),(d112 s)]
noncomputable def o221 (s : T8) (P : Params) : PySem.Obj := ⟨.none,none,(.fields (List.toArray ((.int 2 0)::(.int 0 0)::(.ref 20)::(.int 7 0)::(.int 0 0)::(.ref 28)::(.int 13 0)::(.int 0 0)::(.ref 50)::(.int 19 0)::(.int 0 0)::(.ref 57)::(.int 29 0)::(.int 0 0)::(.ref 64)::(.int 47 0)::(.int 0 0)::(.ref 71)::(.int 49 0)::(.int 0 0)::(.ref 84)::(.int 53 0)::(.int 0 0)::(.ref 91)::(.int 58 0)::(.int 0 0)::(.ref 98)::(.int 66 0)::(.int 0 0)::(.ref 105)::(.int 76 0)::(.int 0 0)::(.ref 112)::(.int 80 0)::(.int 0 0)::(.ref 119)::(.int 91 0)::(.int 0 0)::(.ref 126)::(.int 95 0)::(.int 0 0)::(.ref 133)::(.int 99 0)::(.int 0 0)::(.ref 140)::(.int 110 0)::(.int 0 0)::(.ref 147)::(.int 115 0)::(.int 0 0)::(.ref 154)::(.int 125 0)::(.int 0 0)::(.ref 161)::(.int 141 0)::(.int 0 0)::(.ref 169)::(.int 147 0)::(.int 0 0)::(.ref 176)::(.int 158 0)::(.int 0 0)::(.ref 183)::(.int 174 0)::(.int 0 0)::(.ref 190)::(.int 182 0)::(.int 0 0)::(.ref 197)::(.int 186 0)::(.int 0 0)::(.ref 204)::[]))),#[]⟩
noncomputable def o222 (s : T8) (P : Params) : PySem.Obj := ⟨(.type "tuple"),none,(.seq #[] 0),#[]⟩
noncomputable def o223 (s : T8) (P : Params) : PySem.Obj := ⟨.none,none,(.fields #[]),#[]⟩
noncomputable def o224 (s : T8) (P : Params) : PySem.Obj := ⟨(.type "tuple"),none,(.seq #[(.str (a42 s) 455),(.str (a29 s) 456),(.str (a43 s) 457),(.str (a102 s) 458),(.str (a24 s) 459),(.str (a103 s) 460),(.str (a104 s) 461),(.str (a32 s) 462),(.str (a46 s) 463),(.str (a28 s) 464)] 0),#[]⟩
noncomputable def o225 (s : T8) (P : Params) : PySem.Obj := ⟨(.type "tuple"),none,(.seq #[] 0),#[]⟩
noncomputable def o226 (s : T8) (P : Params) : PySem.Obj := ⟨.none,none,(.func ⟨(a107 s),(a107 s),(d94 s),(.stmts (d95 s)),(d96 s),0,[],.none,.none,.none,.none,none,.none,.none,0⟩),#[]⟩
noncomputable def o227 (s : T8) (P : Params) : PySem.Obj := ⟨(.type "code"),none,(.fields (List.toArray ((.str (a107 s) 452)::(.str (a107 s) 453)::(.str (a180 s) 454)::(.int 158 0)::(.int 2 0)::(.int 0 0)::(.int 0 0)::(.int 3 0)::(.ref 178)::(.bool true)::(.int 181 0)::(.ref 179)::.none::(.ref 180)::(.ref 181)::(.ref 182)::(.int 465 0)::(.int 158 0)::(.str (a180 s) 466)::[]))),#[]⟩
noncomputable def o228 (s : T8) (P : Params) : PySem.Obj := ⟨(.type "function"),none,(.func ⟨(a107 s),(a107 s),(d94 s),(.stmts (d95 s)),(d96 s),3,[],.none,.none,.none,(.str (a87 s) 418),none,(.ref 183),.none,0⟩),#[]⟩
noncomputable def o229 (s : T8) (P : Params) : PySem.Obj := ⟨(.type "tuple"),none,(.seq #[] 0),#[]⟩
noncomputable def o230 (s : T8) (P : Params) : PySem.Obj := ⟨.none,none,(.fields #[]),#[]⟩
noncomputable def o231 (s : T8) (P : Params) : PySem.Obj := ⟨(.type "tuple"),none,(.seq #[(.str (a27 s) 471),(.str (a28 s) 472),(.str (a29 s) 473),(.str (a108 s) 474)] 0),#[]⟩
noncomputable def o232 (s : T8) (P : Params) : PySem.Obj := ⟨(.type "tuple"),none,(.seq #[] 0),#[]⟩
noncomputable def o233 (s : T8) (P : Params) : PySem.Obj := ⟨.none,none,(.func ⟨(a106 s),(a106 s),(d98 s),(.stmts (d99 s)),(d100 s),0,[],.none,.none,.none,.none,none,.none,.none,0⟩),#[]⟩
noncomputable def o234 (s : T8) (P : Params) : PySem.Obj := ⟨(.type "code"),none,(.fields (List.toArray ((.str (a106 s) 468)::(.str (a106 s) 469)::(.str (a180 s) 470)::(.int 174 0)::(.int 3 0)::(.int 0 0)::(.int 0 0)::(.int 3 0)::(.ref 185)::(.bool true)::(.int 181 0)::(.ref 186)::.none::(.ref 187)::(.ref 188)::(.ref 189)::(.int 475 0)::(.int 174 0)::(.str (a180 s) 476)::[]))),#[]⟩
noncomputable def o235 (s : T8) (P : Params) : PySem.Obj := ⟨(.type "function"),none,(.func ⟨(a106 s),(a106 s),(d98 s),(.stmts (d99 s)),(d100 s),3,[],.none,.none,.none,(.str (a87 s) 418),none,(.ref 190),.none,0⟩),#[]⟩
noncomputable def o236 (s : T8) (P : Params) : PySem.Obj := ⟨(.type "tuple"),none,(.seq #[] 0),#[]⟩
noncomputable def o237 (s : T8) (P : Params) : PySem.Obj := ⟨.none,none,(.fields #[]),#[]⟩
noncomputable def o238 (s : T8) (P : Params) : PySem.Obj := ⟨(.type "tuple"),none,(.seq #[(.str (a42 s) 483),(.str (a29 s) 484),(.str (a12 s) 485)] 0),#[]⟩
noncomputable def o239 (s : T8) (P : Params) : PySem.Obj := ⟨(.type "tuple"),none,(.seq #[] 0),#[]⟩
noncomputable def o240 (s : T8) (P : Params) : PySem.Obj := ⟨.none,none,(.func ⟨(a111 s),(a111 s),(d103 s),(.stmts (d104 s)),(d105 s),0,[],.none,.none,.none,.none,none,.none,.none,0⟩),#[]⟩
noncomputable def o241 (s : T8) (P : Params) : PySem.Obj := ⟨(.type "code"),none,(.fields (List.toArray ((.str (a111 s) 480)::(.str (a111 s) 481)::(.str (a180 s) 482)::(.int 182 0)::(.int 2 0)::(.int 0 0)::(.int 0 0)::(.int 3 0)::(.ref 192)::(.bool true)::(.int 181 0)::(.ref 193)::.none::(.ref 194)::(.ref 195)::(.ref 196)::(.int 486 0)::(.int 182 0)::(.str (a180 s) 487)::[]))),#[]⟩
noncomputable def o242 (s : T8) (P : Params) : PySem.Obj := ⟨(.type "function"),none,(.func ⟨(a111 s),(a111 s),(d103 s),(.stmts (d104 s)),(d105 s),3,[],.none,.none,.none,(.str (a109 s) 478),none,(.ref 197),.none,0⟩),#[]⟩
noncomputable def o243 (s : T8) (P : Params) : PySem.Obj := ⟨(.type "tuple"),none,(.seq #[] 0),#[]⟩
noncomputable def o244 (s : T8) (P : Params) : PySem.Obj := ⟨(.type "builtin_function_or_method"),none,(.fields #[(.builtin "type.__prepare__"),(.type "type")]),#[]⟩
noncomputable def o245 (s : T8) (P : Params) : PySem.Obj := ⟨(.type "dict"),none,(.dict #[⟨(PySem.PyData.keyHash P (a192 s)),(.str (a192 s) 498),(.str (a112 s) 489)⟩,⟨(PySem.PyData.keyHash P (a193 s)),(.str (a193 s) 500),(.str (a133 s) 499)⟩,⟨(PySem.PyData.keyHash P (a194 s)),(.str (a194 s) 502),(.int 186 501)⟩,⟨(PySem.PyData.keyHash P (a14 s)),(.str (a14 s) 519),(.ref 213)⟩,⟨(PySem.PyData.keyHash P (a195 s)),(.str (a195 s) 548),(.ref 214)⟩] 5),#[]⟩
noncomputable def o246 (s : T8) (P : Params) : PySem.Obj := ⟨(.type "tuple"),none,(.seq #[] 0),#[]⟩
noncomputable def o247 (s : T8) (P : Params) : PySem.Obj := ⟨.none,none,(.fields #[(.int 188 0),(.int 4 0),(.ref 212)]),#[]⟩
noncomputable def o248 (s : T8) (P : Params) : PySem.Obj := ⟨(.type "code"),none,(.fields (List.toArray ((.str (a133 s) 493)::(.str (a133 s) 494)::(.str (a180 s) 495)::(.int 186 0)::(.int 0 0)::(.int 0 0)::(.int 0 0)::(.int 0 0)::(.ref 202)::(.bool false)::(.int 181 0)::(.ref 203)::.none::.none::.none::.none::(.int 496 0)::(.int 186 0)::(.str (a180 s) 497)::[]))),#[]⟩
noncomputable def o249 (s : T8) (P : Params) : PySem.Obj := ⟨(.type "frame"),none,.plain,#[(some (.ref 204)),(some (.ref 3)),(some (.ref 201)),none,(some (.str (a112 s) 489)),none,(some (.ref 0))]⟩
noncomputable def o250 (s : T8) (P : Params) : PySem.Obj := ⟨(.type "tuple"),none,(.seq #[(.int 16 503),(.int 9 504),(.int 2000 505),(.int 20 506),(.int 2000 507)] 0),#[]⟩
noncomputable def o251 (s : T8) (P : Params) : PySem.Obj := ⟨(.type "tuple"),none,(.seq #[] 0),#[]⟩
noncomputable def o252 (s : T8) (P : Params) : PySem.Obj := ⟨.none,none,(.fields #[]),#[]⟩
noncomputable def o253 (s : T8) (P : Params) : PySem.Obj := ⟨(.type "tuple"),none,(.seq #[(.str (a10 s) 511),(.str (a113 s) 512),(.str (a29 s) 513),(.str (a114 s) 514),(.str (a115 s) 515),(.str (a116 s) 516)] 0),#[]⟩
noncomputable def o254 (s : T8) (P : Params) : PySem.Obj := ⟨(.type "tuple"),none,(.seq #[] 0),#[]⟩
noncomputable def o255 (s : T8) (P : Params) : PySem.Obj := ⟨.none,none,(.func ⟨(a14 s),(a200 s),(d108 s),(.stmts (d109 s)),(d110 s),0,[],.none,.none,.none,.none,none,.none,.none,0⟩),#[]⟩
noncomputable def o256 (s : T8) (P : Params) : PySem.Obj := ⟨(.type "code"),none,(.fields (List.toArray ((.str (a14 s) 508)::(.str (a200 s) 509)::(.str (a180 s) 510)::(.int 188 0)::(.int 6 0)::(.int 0 0)::(.int 0 0)::(.int 3 0)::(.ref 207)::(.bool true)::(.int 181 0)::(.ref 208)::.none::(.ref 209)::(.ref 210)::(.ref 211)::(.int 517 0)::(.int 188 0)::(.str (a180 s) 518)::[]))),#[]⟩
noncomputable def o257 (s : T8) (P : Params) : PySem.Obj := ⟨(.type "function"),none,(.func ⟨(a14 s),(a200 s),(d108 s),(.stmts (d109 s)),(d110 s),3,[],(.ref 206),.none,.none,(.str (a112 s) 489),none,(.ref 212),.none,0⟩),#[]⟩
noncomputable def o258 (s : T8) (P : Params) : PySem.Obj := ⟨(.type "tuple"),none,(.seq (List.toArray ((.str (a118 s) 520)::(.str (a122 s) 521)::(.str (a113 s) 522)::(.str (a132 s) 523)::(.str (a77 s) 524)::(.str (a125 s) 525)::(.str (a29 s) 526)::(.str (a129 s) 527)::(.str (a128 s) 528)::(.str (a61 s) 529)::(.str (a120 s) 530)::(.str (a119 s) 531)::(.str (a126 s) 532)::(.str (a66 s) 533)::(.str (a127 s) 534)::(.str (a130 s) 535)::(.str (a60 s) 536)::(.str (a115 s) 537)::(.str (a114 s) 538)::(.str (a117 s) 539)::(.str (a121 s) 540)::(.str (a3 s) 541)::(.str (a116 s) 542)::(.str (a5 s) 543)::(.str (a123 s) 544)::(.str (a76 s) 545)::(.str (a124 s) 546)::(.str (a131 s) 547)::[])) 0),#[]⟩
noncomputable def o259 (s : T8) (P : Params) : PySem.Obj := ⟨(.type "dict"),none,(.dict #[⟨(PySem.PyData.keyHash P (a192 s)),(.str (a192 s) 498),(.str (a112 s) 489)⟩,⟨(PySem.PyData.keyHash P (a194 s)),(.str (a194 s) 502),(.int 186 501)⟩,⟨(PySem.PyData.keyHash P (a14 s)),(.str (a14 s) 519),(.ref 213)⟩,⟨(PySem.PyData.keyHash P (a195 s)),(.str (a195 s) 548),(.ref 214)⟩,⟨(PySem.PyData.keyHash P (a201 s)),(.str (a201 s) 550),(.ref 217)⟩,⟨(PySem.PyData.keyHash P (a198 s)),(.str (a198 s) 552),(.ref 218)⟩,⟨(PySem.PyData.keyHash P (a184 s)),(.str (a184 s) 553),.none⟩] 4),#[]⟩
noncomputable def o260 (s : T8) (P : Params) : PySem.Obj := ⟨(.type "type"),none,(.cls ⟨(a133 s),[(.type "object")],[(.ref 216),(.type "object")],215,(a133 s),true,[],[],false,none,false⟩),#[none,none,(some (.str (a133 s) 491)),(some (.str (a133 s) 499)),(some (.builtin "object.__new__")),(some (.bool true))]⟩
noncomputable def o261 (s : T8) (P : Params) : PySem.Obj := ⟨(.type "getset_descriptor"),none,(.fields #[(.str (a201 s) 549),(.ref 216),(.builtin "function.__dict__"),(.builtin "function.__dict__#set")]),#[]⟩
noncomputable def o262 (s : T8) (P : Params) : PySem.Obj := ⟨(.type "getset_descriptor"),none,(.fields (List.toArray ((.str (a198 s) 551)::(.ref 216)::(d144 s)))),#[]⟩
noncomputable def o263 (s : T8) (P : Params) : PySem.Obj := ⟨(.type "super"),none,(.fields #[(.ref 216),(.ref 216),(.ref 216)]),#[]⟩
noncomputable def o264 (s : T8) (P : Params) : PySem.Obj := ⟨(.type "builtin_function_or_method"),none,(.fields #[(.builtin "object.__init_subclass__"),(.ref 216)]),#[]⟩
noncomputable def tree264 (s : T8) (P : Params) : PySem.W.BT := (.node (PySem.W.boot_o_0 P) (.node (PySem.W.boot_o_1 P) (.node (o220 s P) (.node (PySem.W.boot_o_7 P) (.node (o52 s P) (.node (o68 s P) (.node (o103 s P) (.node (o169 s P) .nil .nil) (.node (o235 s P) .nil .nil)) (.node (o135 s P) (.node (o201 s P) .nil .nil) .nil)) (.node (o84 s P) (.node (o119 s P) (.node (o185 s P) .nil .nil) (.node (o251 s P) .nil .nil)) (.node (o153 s P) (.node (o217 s P) .nil .nil) .nil))) (.node (o60 s P) (.node (o76 s P) (.node (o111 s P) (.node (o177 s P) .nil .nil) (.node (o243 s P) .nil .nil)) (.node (o143 s P) (.node (o209 s P) .nil .nil) .nil)) (.node (o92 s P) (.node (o127 s P) (.node (o193 s P) .nil .nil) (.node (o259 s P) .nil .nil)) (.node (o161 s P) (.node (o227 s P) .nil .nil) .nil)))) (.node (o43 s P) (.node (o56 s P) (.node (o72 s P) (.node (o107 s P) (.node (o173 s P) .nil .nil) (.node (o239 s P) .nil .nil)) (.node (o139 s P) (.node (o205 s P) .nil .nil) .nil)) (.node (o88 s P) (.node (o123 s P) (.node (o189 s P) .nil .nil) (.node (o255 s P) .nil .nil)) (.node (o157 s P) (.node (o223 s P) .nil .nil) .nil))) (.node (o64 s P) (.node (o80 s P) (.node (o115 s P) (.node (o181 s P) .nil .nil) (.node (o247 s P) .nil .nil)) (.node (o149 s P) (.node (o213 s P) .nil .nil) .nil)) (.node (o99 s P) (.node (o131 s P) (.node (o197 s P) .nil .nil) (.node (o263 s P) .nil .nil)) (.node (o165 s P) (.node (o231 s P) .nil .nil) .nil))))) (.node (PySem.W.boot_o_5 P) (.node (PySem.W.boot_o_9 P) (.node (o54 s P) (.node (o70 s P) (.node (o105 s P) (.node (o171 s P) .nil .nil) (.node (o237 s P) .nil .nil)) (.node (o137 s P) (.node (o203 s P) .nil .nil) .nil)) (.node (o86 s P) (.node (o121 s P) (.node (o187 s P) .nil .nil) (.node (o253 s P) .nil .nil)) (.node (o155 s P) (.node (o219 s P) .nil .nil) .nil))) (.node (o62 s P) (.node (o78 s P) (.node (o113 s P) (.node (o179 s P) .nil .nil) (.node (o245 s P) .nil .nil)) (.node (o145 s P) (.node (o211 s P) .nil .nil) .nil)) (.node (o94 s P) (.node (o129 s P) (.node (o195 s P) .nil .nil) (.node (o261 s P) .nil .nil)) (.node (o163 s P) (.node (o229 s P) .nil .nil) .nil)))) (.node (o45 s P) (.node (o58 s P) (.node (o74 s P) (.node (o109 s P) (.node (o175 s P) .nil .nil) (.node (o241 s P) .nil .nil)) (.node (o141 s P) (.node (o207 s P) .nil .nil) .nil)) (.node (o90 s P) (.node (o125 s P) (.node (o191 s P) .nil .nil) (.node (o257 s P) .nil .nil)) (.node (o159 s P) (.node (o225 s P) .nil .nil) .nil))) (.node (o66 s P) (.node (o82 s P) (.node (o117 s P) (.node (o183 s P) .nil .nil) (.node (o249 s P) .nil .nil)) (.node (o151 s P) (.node (o215 s P) .nil .nil) .nil)) (.node (o101 s P) (.node (o133 s P) (.node (o199 s P) .nil .nil) .nil) (.node (o167 s P) (.node (o233 s P) .nil .nil) .nil)))))) (.node (o96 s P) (.node (PySem.W.boot_o_4 P) (.node (PySem.W.boot_o_8 P) (.node (o53 s P) (.node (o69 s P) (.node (o104 s P) (.node (o170 s P) .nil .nil) (.node (o236 s P) .nil .nil)) (.node (o136 s P) (.node (o202 s P) .nil .nil) .nil)) (.node (o85 s P) (.node (o120 s P) (.node (o186 s P) .nil .nil) (.node (o252 s P) .nil .nil)) (.node (o154 s P) (.node (o218 s P) .nil .nil) .nil))) (.node (o61 s P) (.node (o77 s P) (.node (o112 s P) (.node (o178 s P) .nil .nil) (.node (o244 s P) .nil .nil)) (.node (o144 s P) (.node (o210 s P) .nil .nil) .nil)) (.node (o93 s P) (.node (o128 s P) (.node (o194 s P) .nil .nil) (.node (o260 s P) .nil .nil)) (.node (o162 s P) (.node (o228 s P) .nil .nil) .nil)))) (.node (o221 s P) (.node (o57 s P) (.node (o73 s P) (.node (o108 s P) (.node (o174 s P) .nil .nil) (.node (o240 s P) .nil .nil)) (.node (o140 s P) (.node (o206 s P) .nil .nil) .nil)) (.node (o89 s P) (.node (o124 s P) (.node (o190 s P) .nil .nil) (.node (o256 s P) .nil .nil)) (.node (o158 s P) (.node (o224 s P) .nil .nil) .nil))) (.node (o65 s P) (.node (o81 s P) (.node (o116 s P) (.node (o182 s P) .nil .nil) (.node (o248 s P) .nil .nil)) (.node (o150 s P) (.node (o214 s P) .nil .nil) .nil)) (.node (o100 s P) (.node (o132 s P) (.node (o198 s P) .nil .nil) (.node (o264 s P) .nil .nil)) (.node (o166 s P) (.node (o232 s P) .nil .nil) .nil))))) (.node (PySem.W.boot_o_6 P) (.node (PySem.W.boot_o_10 P) (.node (o55 s P) (.node (o71 s P) (.node (o106 s P) (.node (o172 s P) .nil .nil) (.node (o238 s P) .nil .nil)) (.node (o138 s P) (.node (o204 s P) .nil .nil) .nil)) (.node (o87 s P) (.node (o122 s P) (.node (o188 s P) .nil .nil) (.node (o254 s P) .nil .nil)) (.node (o156 s P) (.node (o222 s P) .nil .nil) .nil))) (.node (o63 s P) (.node (o79 s P) (.node (o114 s P) (.node (o180 s P) .nil .nil) (.node (o246 s P) .nil .nil)) (.node (o146 s P) (.node (o212 s P) .nil .nil) .nil)) (.node (o95 s P) (.node (o130 s P) (.node (o196 s P) .nil .nil) (.node (o262 s P) .nil .nil)) (.node (o164 s P) (.node (o230 s P) .nil .nil) .nil)))) (.node (o46 s P) (.node (o59 s P) (.node (o75 s P) (.node (o110 s P) (.node (o176 s P) .nil .nil) (.node (o242 s P) .nil .nil)) (.node (o142 s P) (.node (o208 s P) .nil .nil) .nil)) (.node (o91 s P) (.node (o126 s P) (.node (o192 s P) .nil .nil) (.node (o258 s P) .nil .nil)) (.node (o160 s P) (.node (o226 s P) .nil .nil) .nil))) (.node (o67 s P) (.node (o83 s P) (.node (o118 s P) (.node (o184 s P) .nil .nil) (.node (o250 s P) .nil .nil)) (.node (o152 s P) (.node (o216 s P) .nil .nil) .nil)) (.node (o102 s P) (.node (o134 s P) (.node (o200 s P) .nil .nil) .nil) (.node (o168 s P) (.node (o234 s P) .nil .nil) .nil)))))))
noncomputable def o265 (s : T8) (P : Params) : PySem.Obj := ⟨(.type "dict"),none,(.dict (List.toArray (⟨(PySem.PyData.keyHash P (a0 s)),(.str (a0 s) 165),(.str (a134 s) 556)⟩::⟨(PySem.PyData.keyHash P (a184 s)),(.str (a184 s) 166),.none⟩::⟨(PySem.PyData.keyHash P (a185 s)),(.str (a185 s) 167),.none⟩::⟨(PySem.PyData.keyHash P (a186 s)),(.str (a186 s) 168),(.builtin "__main__.__loader__#opaque")⟩::⟨(PySem.PyData.keyHash P (a187 s)),(.str (a187 s) 169),.none⟩::⟨(PySem.PyData.keyHash P (a188 s)),(.str (a188 s) 170),(.ref 6)⟩::⟨(PySem.PyData.keyHash P (a189 s)),(.str (a189 s) 171),(.ref 4)⟩::⟨(PySem.PyData.keyHash P (a190 s)),(.str (a190 s) 173),(.str (a180 s) 172)⟩::⟨(PySem.PyData.keyHash P (a191 s)),(.str (a191 s) 174),.none⟩::⟨(PySem.PyData.keyHash P (a7 s)),(.str (a7 s) 195),(.ref 21)⟩::⟨(PySem.PyData.keyHash P (a9 s)),(.str (a9 s) 199),(.int 99 198)⟩::⟨(PySem.PyData.keyHash P (a16 s)),(.str (a16 s) 233),(.ref 41)⟩::⟨(PySem.PyData.keyHash P (a21 s)),(.str (a21 s) 242),(.ref 51)⟩::⟨(PySem.PyData.keyHash P (a26 s)),(.str (a26 s) 253),(.ref 58)⟩::⟨(PySem.PyData.keyHash P (a35 s)),(.str (a35 s) 265),(.ref 65)⟩::⟨(PySem.PyData.keyHash P (a37 s)),(.str (a37 s) 269),(.str (a38 s) 268)⟩::⟨(PySem.PyData.keyHash P (a39 s)),(.str (a39 s) 271),(.str (a40 s) 270)⟩::⟨(PySem.PyData.keyHash P (a41 s)),(.str (a41 s) 291),(.ref 75)⟩::⟨(PySem.PyData.keyHash P (a45 s)),(.str (a45 s) 299),(.ref 85)⟩::⟨(PySem.PyData.keyHash P (a49 s)),(.str (a49 s) 308),(.ref 92)⟩::⟨(PySem.PyData.keyHash P (a52 s)),(.str (a52 s) 318),(.ref 99)⟩::⟨(PySem.PyData.keyHash P (a56 s)),(.str (a56 s) 331),(.ref 106)⟩::⟨(PySem.PyData.keyHash P (a59 s)),(.str (a59 s) 340),(.ref 113)⟩::⟨(PySem.PyData.keyHash P (a64 s)),(.str (a64 s) 355),(.ref 120)⟩::⟨(PySem.PyData.keyHash P (a68 s)),(.str (a68 s) 362),(.ref 127)⟩::⟨(PySem.PyData.keyHash P (a72 s)),(.str (a72 s) 371),(.ref 134)⟩::⟨(PySem.PyData.keyHash P (a73 s)),(.str (a73 s) 383),(.ref 141)⟩::⟨(PySem.PyData.keyHash P (a75 s)),(.str (a75 s) 392),(.ref 148)⟩::⟨(PySem.PyData.keyHash P (a81 s)),(.str (a81 s) 404),(.ref 155)⟩::⟨(PySem.PyData.keyHash P (a86 s)),(.str (a86 s) 417),(.ref 162)⟩::⟨(PySem.PyData.keyHash P (a88 s)),(.str (a88 s) 422),(.ref 163)⟩::⟨(PySem.PyData.keyHash P (a89 s)),(.str (a89 s) 424),(.int 300 423)⟩::⟨(PySem.PyData.keyHash P (a90 s)),(.str (a90 s) 426),(.int 9999 425)⟩::⟨(PySem.PyData.keyHash P (a91 s)),(.str (a91 s) 428),(.str (a40 s) 427)⟩::⟨(PySem.PyData.keyHash P (a96 s)),(.str (a96 s) 438),(.ref 170)⟩::⟨(PySem.PyData.keyHash P (a101 s)),(.str (a101 s) 451),(.ref 177)⟩::⟨(PySem.PyData.keyHash P (a107 s)),(.str (a107 s) 467),(.ref 184)⟩::⟨(PySem.PyData.keyHash P (a106 s)),(.str (a106 s) 477),(.ref 191)⟩::⟨(PySem.PyData.keyHash P (a111 s)),(.str (a111 s) 488),(.ref 198)⟩::⟨(PySem.PyData.keyHash P (a133 s)),(.str (a133 s) 555),(.ref 216)⟩::⟨(PySem.PyData.keyHash P (a137 s)),(.str (a137 s) 566),(.ref 227)⟩::⟨(PySem.PyData.keyHash P (a139 s)),(.str (a139 s) 574),(.ref 234)⟩::⟨(PySem.PyData.keyHash P (a156 s)),(.str (a156 s) 590),(.ref 241)⟩::⟨(PySem.PyData.keyHash P (a158 s)),(.str (a158 s) 601),(.ref 248)⟩::⟨(PySem.PyData.keyHash P (a178 s)),(.str (a178 s) 607),(.ref 253)⟩::[])) 45),#[]⟩
noncomputable def sts265 (s : T8) : List PySem.Stmt := [(d117 s),(d121 s),(d125 s),(d130 s),(d135 s)]
noncomputable def o266 (s : T8) (P : Params) : PySem.Obj := ⟨.none,none,(.fields (List.toArray ((.int 2 0)::(.int 0 0)::(.ref 20)::(.int 7 0)::(.int 0 0)::(.ref 28)::(.int 13 0)::(.int 0 0)::(.ref 50)::(.int 19 0)::(.int 0 0)::(.ref 57)::(.int 29 0)::(.int 0 0)::(.ref 64)::(.int 47 0)::(.int 0 0)::(.ref 71)::(.int 49 0)::(.int 0 0)::(.ref 84)::(.int 53 0)::(.int 0 0)::(.ref 91)::(.int 58 0)::(.int 0 0)::(.ref 98)::(.int 66 0)::(.int 0 0)::(.ref 105)::(.int 76 0)::(.int 0 0)::(.ref 112)::(.int 80 0)::(.int 0 0)::(.ref 119)::(.int 91 0)::(.int 0 0)::(.ref 126)::(.int 95 0)::(.int 0 0)::(.ref 133)::(.int 99 0)::(.int 0 0)::(.ref 140)::(.int 110 0)::(.int 0 0)::(.ref 147)::(.int 115 0)::(.int 0 0)::(.ref 154)::(.int 125 0)::(.int 0 0)::(.ref 161)::(.int 141 0)::(.int 0 0)::(.ref 169)::(.int 147 0)::(.int 0 0)::(.ref 176)::(.int 158 0)::(.int 0 0)::(.ref 183)::(.int 174 0)::(.int 0 0)::(.ref 190)::(.int 182 0)::(.int 0 0)::(.ref 197)::(.int 186 0)::(.int 0 0)::(.ref 204)::(.int 218 0)::(.int 0 0)::(.ref 226)::(.int 222 0)::(.int 0 0)::(.ref 233)::(.int 227 0)::(.int 0 0)::(.ref 240)::(.int 236 0)::(.int 0 0)::(.ref 247)::(.int 244 0)::(.int 0 0)::(.ref 252)::[]))),#[]⟩
noncomputable def o267 (s : T8) (P : Params) : PySem.Obj := ⟨(.type "tuple"),none,(.seq #[] 0),#[]⟩
noncomputable def o268 (s : T8) (P : Params) : PySem.Obj := ⟨.none,none,(.fields #[]),#[]⟩
noncomputable def o269 (s : T8) (P : Params) : PySem.Obj := ⟨(.type "tuple"),none,(.seq #[(.str (a135 s) 561),(.str (a19 s) 562),(.str (a136 s) 563)] 0),#[]⟩
noncomputable def o270 (s : T8) (P : Params) : PySem.Obj := ⟨(.type "tuple"),none,(.seq #[] 0),#[]⟩
noncomputable def o271 (s : T8) (P : Params) : PySem.Obj := ⟨.none,none,(.func ⟨(a137 s),(a137 s),(d113 s),(.stmts (d114 s)),(d116 s),0,[],.none,.none,.none,.none,none,.none,.none,0⟩),#[]⟩
noncomputable def o272 (s : T8) (P : Params) : PySem.Obj := ⟨(.type "code"),none,(.fields (List.toArray ((.str (a137 s) 558)::(.str (a137 s) 559)::(.str (a180 s) 560)::(.int 218 0)::(.int 2 0)::(.int 0 0)::(.int 0 0)::(.int 3 0)::(.ref 221)::(.bool true)::(.int 181 0)::(.ref 222)::.none::(.ref 223)::(.ref 224)::(.ref 225)::(.int 564 0)::(.int 218 0)::(.str (a180 s) 565)::[]))),#[]⟩
noncomputable def o273 (s : T8) (P : Params) : PySem.Obj := ⟨(.type "function"),none,(.func ⟨(a137 s),(a137 s),(d113 s),(.stmts (d114 s)),(d116 s),3,[],.none,.none,.none,(.str (a134 s) 556),none,(.ref 226),.none,0⟩),#[]⟩
noncomputable def o274 (s : T8) (P : Params) : PySem.Obj := ⟨(.type "tuple"),none,(.seq #[] 0),#[]⟩
noncomputable def o275 (s : T8) (P : Params) : PySem.Obj := ⟨.none,none,(.fields #[]),#[]⟩
noncomputable def o276 (s : T8) (P : Params) : PySem.Obj := ⟨(.type "tuple"),none,(.seq #[(.str (a18 s) 570),(.str (a138 s) 571)] 0),#[]⟩
noncomputable def o277 (s : T8) (P : Params) : PySem.Obj := ⟨(.type "tuple"),none,(.seq #[] 0),#[]⟩
noncomputable def o278 (s : T8) (P : Params) : PySem.Obj := ⟨.none,none,(.func ⟨(a139 s),(a139 s),(d118 s),(.stmts (d119 s)),(d120 s),0,[],.none,.none,.none,.none,none,.none,.none,0⟩),#[]⟩
noncomputable def o279 (s : T8) (P : Params) : PySem.Obj := ⟨(.type "code"),none,(.fields (List.toArray ((.str (a139 s) 567)::(.str (a139 s) 568)::(.str (a180 s) 569)::(.int 222 0)::(.int 1 0)::(.int 0 0)::(.int 0 0)::(.int 3 0)::(.ref 228)::(.bool true)::(.int 181 0)::(.ref 229)::.none::(.ref 230)::(.ref 231)::(.ref 232)::(.int 572 0)::(.int 222 0)::(.str (a180 s) 573)::[]))),#[]⟩
noncomputable def o280 (s : T8) (P : Params) : PySem.Obj := ⟨(.type "function"),none,(.func ⟨(a139 s),(a139 s),(d118 s),(.stmts (d119 s)),(d120 s),3,[],.none,.none,.none,(.str (a134 s) 556),none,(.ref 233),.none,0⟩),#[]⟩
noncomputable def o281 (s : T8) (P : Params) : PySem.Obj := ⟨(.type "tuple"),none,(.seq #[] 0),#[]⟩
noncomputable def o282 (s : T8) (P : Params) : PySem.Obj := ⟨.none,none,(.fields #[]),#[]⟩
noncomputable def o283 (s : T8) (P : Params) : PySem.Obj := ⟨(.type "tuple"),none,(.seq #[(.str (a135 s) 578),(.str (a57 s) 579),(.str (a140 s) 580),(.str (a141 s) 581),(.str (a18 s) 582),(.str (a12 s) 583),(.str (a142 s) 584),(.str (a147 s) 585),(.str (a42 s) 586),(.str (a148 s) 587)] 0),#[]⟩
noncomputable def o284 (s : T8) (P : Params) : PySem.Obj := ⟨(.type "tuple"),none,(.seq #[] 0),#[]⟩
noncomputable def o285 (s : T8) (P : Params) : PySem.Obj := ⟨.none,none,(.func ⟨(a156 s),(a156 s),(d122 s),(.stmts (d123 s)),(d124 s),0,[],.none,.none,.none,.none,none,.none,.none,0⟩),#[]⟩
noncomputable def o286 (s : T8) (P : Params) : PySem.Obj := ⟨(.type "code"),none,(.fields (List.toArray ((.str (a156 s) 575)::(.str (a156 s) 576)::(.str (a180 s) 577)::(.int 227 0)::(.int 3 0)::(.int 0 0)::(.int 0 0)::(.int 3 0)::(.ref 235)::(.bool true)::(.int 181 0)::(.ref 236)::.none::(.ref 237)::(.ref 238)::(.ref 239)::(.int 588 0)::(.int 227 0)::(.str (a180 s) 589)::[]))),#[]⟩
noncomputable def o287 (s : T8) (P : Params) : PySem.Obj := ⟨(.type "function"),none,(.func ⟨(a156 s),(a156 s),(d122 s),(.stmts (d123 s)),(d124 s),3,[],.none,.none,.none,(.str (a134 s) 556),none,(.ref 240),.none,0⟩),#[]⟩
noncomputable def o288 (s : T8) (P : Params) : PySem.Obj := ⟨(.type "tuple"),none,(.seq #[] 0),#[]⟩
noncomputable def o289 (s : T8) (P : Params) : PySem.Obj := ⟨.none,none,(.fields #[]),#[]⟩
noncomputable def o290 (s : T8) (P : Params) : PySem.Obj := ⟨(.type "tuple"),none,(.seq #[(.str (a65 s) 594),(.str (a60 s) 595),(.str (a24 s) 596),(.str (a57 s) 597),(.str (a157 s) 598)] 0),#[]⟩
noncomputable def o291 (s : T8) (P : Params) : PySem.Obj := ⟨(.type "tuple"),none,(.seq #[] 0),#[]⟩
noncomputable def o292 (s : T8) (P : Params) : PySem.Obj := ⟨.none,none,(.func ⟨(a158 s),(a158 s),(d126 s),(.stmts (d128 s)),(d129 s),0,[],.none,.none,.none,.none,none,.none,.none,0⟩),#[]⟩
noncomputable def o293 (s : T8) (P : Params) : PySem.Obj := ⟨(.type "code"),none,(.fields (List.toArray ((.str (a158 s) 591)::(.str (a158 s) 592)::(.str (a180 s) 593)::(.int 236 0)::(.int 2 0)::(.int 0 0)::(.int 0 0)::(.int 3 0)::(.ref 242)::(.bool true)::(.int 181 0)::(.ref 243)::.none::(.ref 244)::(.ref 245)::(.ref 246)::(.int 599 0)::(.int 236 0)::(.str (a180 s) 600)::[]))),#[]⟩
noncomputable def o294 (s : T8) (P : Params) : PySem.Obj := ⟨(.type "function"),none,(.func ⟨(a158 s),(a158 s),(d126 s),(.stmts (d128 s)),(d129 s),3,[],.none,.none,.none,(.str (a134 s) 556),none,(.ref 247),.none,0⟩),#[]⟩
noncomputable def o295 (s : T8) (P : Params) : PySem.Obj := ⟨(.type "tuple"),none,(.seq #[] 0),#[]⟩
noncomputable def o296 (s : T8) (P : Params) : PySem.Obj := ⟨.none,none,(.fields #[]),#[]⟩
noncomputable def o297 (s : T8) (P : Params) : PySem.Obj := ⟨.none,none,(.func ⟨(a178 s),(a178 s),(d131 s),(.stmts (d133 s)),(d134 s),0,[],.none,.none,.none,.none,none,.none,.none,0⟩),#[]⟩
noncomputable def o298 (s : T8) (P : Params) : PySem.Obj := ⟨(.type "code"),none,(.fields (List.toArray ((.str (a178 s) 602)::(.str (a178 s) 603)::(.str (a180 s) 604)::(.int 244 0)::(.int 1 0)::(.int 0 0)::(.int 0 0)::(.int 3 0)::(.ref 249)::(.bool true)::(.int 181 0)::(.ref 250)::.none::.none::.none::(.ref 251)::(.int 605 0)::(.int 244 0)::(.str (a180 s) 606)::[]))),#[]⟩
noncomputable def o299 (s : T8) (P : Params) : PySem.Obj := ⟨(.type "function"),none,(.func ⟨(a178 s),(a178 s),(d131 s),(.stmts (d133 s)),(d134 s),3,[],.none,.none,.none,(.str (a134 s) 556),none,(.ref 252),.none,0⟩),#[]⟩
noncomputable def tree299 (s : T8) (P : Params) : PySem.W.BT := (.node (PySem.W.boot_o_0 P) (.node (PySem.W.boot_o_1 P) (.node (o265 s P) (.node (PySem.W.boot_o_7 P) (.node (o52 s P) (.node (o68 s P) (.node (o103 s P) (.node (o169 s P) .nil .nil) (.node (o235 s P) .nil .nil)) (.node (o135 s P) (.node (o201 s P) .nil .nil) (.node (o269 s P) .nil .nil))) (.node (o84 s P) (.node (o119 s P) (.node (o185 s P) .nil .nil) (.node (o251 s P) .nil .nil)) (.node (o153 s P) (.node (o217 s P) .nil .nil) (.node (o285 s P) .nil .nil)))) (.node (o60 s P) (.node (o76 s P) (.node (o111 s P) (.node (o177 s P) .nil .nil) (.node (o243 s P) .nil .nil)) (.node (o143 s P) (.node (o209 s P) .nil .nil) (.node (o277 s P) .nil .nil))) (.node (o92 s P) (.node (o127 s P) (.node (o193 s P) .nil .nil) (.node (o259 s P) .nil .nil)) (.node (o161 s P) (.node (o227 s P) .nil .nil) (.node (o293 s P) .nil .nil))))) (.node (o43 s P) (.node (o56 s P) (.node (o72 s P) (.node (o107 s P) (.node (o173 s P) .nil .nil) (.node (o239 s P) .nil .nil)) (.node (o139 s P) (.node (o205 s P) .nil .nil) (.node (o273 s P) .nil .nil))) (.node (o88 s P) (.node (o123 s P) (.node (o189 s P) .nil .nil) (.node (o255 s P) .nil .nil)) (.node (o157 s P) (.node (o223 s P) .nil .nil) (.node (o289 s P) .nil .nil)))) (.node (o64 s P) (.node (o80 s P) (.node (o115 s P) (.node (o181 s P) .nil .nil) (.node (o247 s P) .nil .nil)) (.node (o149 s P) (.node (o213 s P) .nil .nil) (.node (o281 s P) .nil .nil))) (.node (o99 s P) (.node (o131 s P) (.node (o197 s P) .nil .nil) (.node (o263 s P) .nil .nil)) (.node (o165 s P) (.node (o231 s P) .nil .nil) (.node (o297 s P) .nil .nil)))))) (.node (PySem.W.boot_o_5 P) (.node (PySem.W.boot_o_9 P) (.node (o54 s P) (.node (o70 s P) (.node (o105 s P) (.node (o171 s P) .nil .nil) (.node (o237 s P) .nil .nil)) (.node (o137 s P) (.node (o203 s P) .nil .nil) (.node (o271 s P) .nil .nil))) (.node (o86 s P) (.node (o121 s P) (.node (o187 s P) .nil .nil) (.node (o253 s P) .nil .nil)) (.node (o155 s P) (.node (o219 s P) .nil .nil) (.node (o287 s P) .nil .nil)))) (.node (o62 s P) (.node (o78 s P) (.node (o113 s P) (.node (o179 s P) .nil .nil) (.node (o245 s P) .nil .nil)) (.node (o145 s P) (.node (o211 s P) .nil .nil) (.node (o279 s P) .nil .nil))) (.node (o94 s P) (.node (o129 s P) (.node (o195 s P) .nil .nil) (.node (o261 s P) .nil .nil)) (.node (o163 s P) (.node (o229 s P) .nil .nil) (.node (o295 s P) .nil .nil))))) (.node (o45 s P) (.node (o58 s P) (.node (o74 s P) (.node (o109 s P) (.node (o175 s P) .nil .nil) (.node (o241 s P) .nil .nil)) (.node (o141 s P) (.node (o207 s P) .nil .nil) (.node (o275 s P) .nil .nil))) (.node (o90 s P) (.node (o125 s P) (.node (o191 s P) .nil .nil) (.node (o257 s P) .nil .nil)) (.node (o159 s P) (.node (o225 s P) .nil .nil) (.node (o291 s P) .nil .nil)))) (.node (o66 s P) (.node (o82 s P) (.node (o117 s P) (.node (o183 s P) .nil .nil) (.node (o249 s P) .nil .nil)) (.node (o151 s P) (.node (o215 s P) .nil .nil) (.node (o283 s P) .nil .nil))) (.node (o101 s P) (.node (o133 s P) (.node (o199 s P) .nil .nil) (.node (o267 s P) .nil .nil)) (.node (o167 s P) (.node (o233 s P) .nil .nil) (.node (o299 s P) .nil .nil))))))) (.node (o96 s P) (.node (PySem.W.boot_o_4 P) (.node (PySem.W.boot_o_8 P) (.node (o53 s P) (.node (o69 s P) (.node (o104 s P) (.node (o170 s P) .nil .nil) (.node (o236 s P) .nil .nil)) (.node (o136 s P) (.node (o202 s P) .nil .nil) (.node (o270 s P) .nil .nil))) (.node (o85 s P) (.node (o120 s P) (.node (o186 s P) .nil .nil) (.node (o252 s P) .nil .nil)) (.node (o154 s P) (.node (o218 s P) .nil .nil) (.node (o286 s P) .nil .nil)))) (.node (o61 s P) (.node (o77 s P) (.node (o112 s P) (.node (o178 s P) .nil .nil) (.node (o244 s P) .nil .nil)) (.node (o144 s P) (.node (o210 s P) .nil .nil) (.node (o278 s P) .nil .nil))) (.node (o93 s P) (.node (o128 s P) (.node (o194 s P) .nil .nil) (.node (o260 s P) .nil .nil)) (.node (o162 s P) (.node (o228 s P) .nil .nil) (.node (o294 s P) .nil .nil))))) (.node (o266 s P) (.node (o57 s P) (.node (o73 s P) (.node (o108 s P) (.node (o174 s P) .nil .nil) (.node (o240 s P) .nil .nil)) (.node (o140 s P) (.node (o206 s P) .nil .nil) (.node (o274 s P) .nil .nil))) (.node (o89 s P) (.node (o124 s P) (.node (o190 s P) .nil .nil) (.node (o256 s P) .nil .nil)) (.node (o158 s P) (.node (o224 s P) .nil .nil) (.node (o290 s P) .nil .nil)))) (.node (o65 s P) (.node (o81 s P) (.node (o116 s P) (.node (o182 s P) .nil .nil) (.node (o248 s P) .nil .nil)) (.node (o150 s P) (.node (o214 s P) .nil .nil) (.node (o282 s P) .nil .nil))) (.node (o100 s P) (.node (o132 s P) (.node (o198 s P) .nil .nil) (.node (o264 s P) .nil .nil)) (.node (o166 s P) (.node (o232 s P) .nil .nil) (.node (o298 s P) .nil .nil)))))) (.node (PySem.W.boot_o_6 P) (.node (PySem.W.boot_o_10 P) (.node (o55 s P) (.node (o71 s P) (.node (o106 s P) (.node (o172 s P) .nil .nil) (.node (o238 s P) .nil .nil)) (.node (o138 s P) (.node (o204 s P) .nil .nil) (.node (o272 s P) .nil .nil))) (.node (o87 s P) (.node (o122 s P) (.node (o188 s P) .nil .nil) (.node (o254 s P) .nil .nil)) (.node (o156 s P) (.node (o222 s P) .nil .nil) (.node (o288 s P) .nil .nil)))) (.node (o63 s P) (.node (o79 s P) (.node (o114 s P) (.node (o180 s P) .nil .nil) (.node (o246 s P) .nil .nil)) (.node (o146 s P) (.node (o212 s P) .nil .nil) (.node (o280 s P) .nil .nil))) (.node (o95 s P) (.node (o130 s P) (.node (o196 s P) .nil .nil) (.node (o262 s P) .nil .nil)) (.node (o164 s P) (.node (o230 s P) .nil .nil) (.node (o296 s P) .nil .nil))))) (.node (o46 s P) (.node (o59 s P) (.node (o75 s P) (.node (o110 s P) (.node (o176 s P) .nil .nil) (.node (o242 s P) .nil .nil)) (.node (o142 s P) (.node (o208 s P) .nil .nil) (.node (o276 s P) .nil .nil))) (.node (o91 s P) (.node (o126 s P) (.node (o192 s P) .nil .nil) (.node (o258 s P) .nil .nil)) (.node (o160 s P) (.node (o226 s P) .nil .nil) (.node (o292 s P) .nil .nil)))) (.node (o67 s P) (.node (o83 s P) (.node (o118 s P) (.node (o184 s P) .nil .nil) (.node (o250 s P) .nil .nil)) (.node (o152 s P) (.node (o216 s P) .nil .nil) (.node (o284 s P) .nil .nil))) (.node (o102 s P) (.node (o134 s P) (.node (o200 s P) .nil .nil) (.node (o268 s P) .nil .nil)) (.node (o168 s P) (.node (o234 s P) .nil .nil) .nil)))))))
noncomputable def heap300 (s : T8) (P : Params) : PySem.Heap := ⟨⟨((PySem.W.boot_o_0 P)::(PySem.W.boot_o_1 P)::(o96 s P)::(o265 s P)::(PySem.W.boot_o_4 P)::(PySem.W.boot_o_5 P)::(PySem.W.boot_o_6 P)::(PySem.W.boot_o_7 P)::(PySem.W.boot_o_8 P)::(PySem.W.boot_o_9 P)::(PySem.W.boot_o_10 P)::(o43 s P)::(o266 s P)::(o45 s P)::(o46 s P)::(o52 s P)::(o53 s P)::(o54 s P)::(o55 s P)::(o56 s P)::(o57 s P)::(o58 s P)::(o59 s P)::(o60 s P)::(o61 s P)::(o62 s P)::(o63 s P)::(o64 s P)::(o65 s P)::(o66 s P)::(o67 s P)::(o68 s P)::(o69 s P)::(o70 s P)::(o71 s P)::(o72 s P)::(o73 s P)::(o74 s P)::(o75 s P)::(o76 s P)::(o77 s P)::(o78 s P)::(o79 s P)::(o80 s P)::(o81 s P)::(o82 s P)::(o83 s P)::(o84 s P)::(o85 s P)::(o86 s P)::(o87 s P)::(o88 s P)::(o89 s P)::(o90 s P)::(o91 s P)::(o92 s P)::(o93 s P)::(o94 s P)::(o95 s P)::(o99 s P)::(o100 s P)::(o101 s P)::(o102 s P)::(o103 s P)::(o104 s P)::(o105 s P)::(o106 s P)::(o107 s P)::(o108 s P)::(o109 s P)::(o110 s P)::(o111 s P)::(o112 s P)::(o113 s P)::(o114 s P)::(o115 s P)::(o116 s P)::(o117 s P)::(o118 s P)::(o119 s P)::(o120 s P)::(o121 s P)::(o122 s P)::(o123 s P)::(o124 s P)::(o125 s P)::(o126 s P)::(o127 s P)::(o128 s P)::(o129 s P)::(o130 s P)::(o131 s P)::(o132 s P)::(o133 s P)::(o134 s P)::(o135 s P)::(o136 s P)::(o137 s P)::(o138 s P)::(o139 s P)::(o140 s P)::(o141 s P)::(o142 s P)::(o143 s P)::(o144 s P)::(o145 s P)::(o146 s P)::(o149 s P)::(o150 s P)::(o151 s P)::(o152 s P)::(o153 s P)::(o154 s P)::(o155 s P)::(o156 s P)::(o157 s P)::(o158 s P)::(o159 s P)::(o160 s P)::(o161 s P)::(o162 s P)::(o163 s P)::(o164 s P)::(o165 s P)::(o166 s P)::(o167 s P)::(o168 s P)::(o169 s P)::(o170 s P)::(o171 s P)::(o172 s P)::(o173 s P)::(o174 s P)::(o175 s P)::(o176 s P)::(o177 s P)::(o178 s P)::(o179 s P)::(o180 s P)::(o181 s P)::(o182 s P)::(o183 s P)::(o184 s P)::(o185 s P)::(o186 s P)::(o187 s P)::(o188 s P)::(o189 s P)::(o190 s P)::(o191 s P)::(o192 s P)::(o193 s P)::(o194 s P)::(o195 s P)::(o196 s P)::(o197 s P)::(o198 s P)::(o199 s P)::(o200 s P)::(o201 s P)::(o202 s P)::(o203 s P)::(o204 s P)::(o205 s P)::(o206 s P)::(o207 s P)::(o208 s P)::(o209 s P)::(o210 s P)::(o211 s P)::(o212 s P)::(o213 s P)::(o214 s P)::(o215 s P)::(o216 s P)::(o217 s P)::(o218 s P)::(o219 s P)::(o222 s P)::(o223 s P)::(o224 s P)::(o225 s P)::(o226 s P)::(o227 s P)::(o228 s P)::(o229 s P)::(o230 s P)::(o231 s P)::(o232 s P)::(o233 s P)::(o234 s P)::(o235 s P)::(o236 s P)::(o237 s P)::(o238 s P)::(o239 s P)::(o240 s P)::(o241 s P)::(o242 s P)::(o243 s P)::(o244 s P)::(o245 s P)::(o246 s P)::(o247 s P)::(o248 s P)::(o249 s P)::(o250 s P)::(o251 s P)::(o252 s P)::(o253 s P)::(o254 s P)::(o255 s P)::(o256 s P)::(o257 s P)::(o258 s P)::(o259 s P)::(o260 s P)::(o261 s P)::(o262 s P)::(o263 s P)::(o264 s P)::(o267 s P)::(o268 s P)::(o269 s P)::(o270 s P)::(o271 s P)::(o272 s P)::(o273 s P)::(o274 s P)::(o275 s P)::(o276 s P)::(o277 s P)::(o278 s P)::(o279 s P)::(o280 s P)::(o281 s P)::(o282 s P)::(o283 s P)::(o284 s P)::(o285 s P)::(o286 s P)::(o287 s P)::(o288 s P)::(o289 s P)::(o290 s P)::(o291 s P)::(o292 s P)::(o293 s P)::(o294 s P)::(o295 s P)::(o296 s P)::(o297 s P)::(o298 s P)::(o299 s P)::[])⟩,(d139 s)⟩
noncomputable def vbody (s : T8) : List Stmt := [stA s 1, stA s 3, stA s 4, stA s 5, stA s 6, stA s 7, stA s 9, stA s 10, stA s 11, stA s 12, stA s 13, stA s 14, stA s 15, stA s 16, stA s 17, stA s 18, stA s 19, stA s 20, stA s 21, stA s 22, stA s 24, stA s 26, stA s 27, stA s 28, stA s 29, stA s 30, stA s 31, stA s 32, stA s 33, stA s 35, stA s 37, stA s 39, stA s 40, stA s 41, stA s 42, stA s 43]
noncomputable def viewG (s : T8) : Program := { prog s with main := { (prog s).main with body := vbody s } }
noncomputable def KG (s : T8) (P : Params) : Frag := [((nat_lit 2),(o96 s P)),((nat_lit 3),(o265 s P)),((nat_lit 15),(o52 s P)),((nat_lit 17),(o54 s P)),((nat_lit 18),(o55 s P)),((nat_lit 20),(o57 s P)),((nat_lit 21),(o58 s P)),((nat_lit 22),(o59 s P)),((nat_lit 25),(o62 s P)),((nat_lit 30),(o67 s P)),((nat_lit 31),(o68 s P)),((nat_lit 32),(o69 s P)),((nat_lit 34),(o71 s P)),((nat_lit 35),(o72 s P)),((nat_lit 37),(o74 s P)),((nat_lit 38),(o75 s P)),((nat_lit 39),(o76 s P)),((nat_lit 40),(o77 s P)),((nat_lit 41),(o78 s P)),((nat_lit 42),(o79 s P)),((nat_lit 45),(o82 s P)),((nat_lit 47),(o84 s P)),((nat_lit 48),(o85 s P)),((nat_lit 50),(o87 s P)),((nat_lit 51),(o88 s P)),((nat_lit 52),(o89 s P)),((nat_lit 54),(o91 s P)),((nat_lit 55),(o92 s P)),((nat_lit 57),(o94 s P)),((nat_lit 58),(o95 s P)),((nat_lit 59),(o99 s P)),((nat_lit 61),(o101 s P)),((nat_lit 62),(o102 s P)),((nat_lit 64),(o104 s P)),((nat_lit 65),(o105 s P)),((nat_lit 66),(o106 s P)),((nat_lit 73),(o113 s P)),((nat_lit 74),(o114 s P)),((nat_lit 75),(o115 s P)),((nat_lit 76),(o116 s P)),((nat_lit 79),(o119 s P)),((nat_lit 81),(o121 s P)),((nat_lit 82),(o122 s P)),((nat_lit 84),(o124 s P)),((nat_lit 85),(o125 s P)),((nat_lit 86),(o126 s P)),((nat_lit 88),(o128 s P)),((nat_lit 89),(o129 s P)),((nat_lit 91),(o131 s P)),((nat_lit 92),(o132 s P)),((nat_lit 93),(o133 s P)),((nat_lit 95),(o135 s P)),((nat_lit 96),(o136 s P)),((nat_lit 98),(o138 s P)),((nat_lit 99),(o139 s P)),((nat_lit 100),(o140 s P)),((nat_lit 102),(o142 s P)),((nat_lit 103),(o143 s P)),((nat_lit 105),(o145 s P)),((nat_lit 106),(o146 s P)),((nat_lit 107),(o149 s P)),((nat_lit 109),(o151 s P)),((nat_lit 110),(o152 s P)),((nat_lit 112),(o154 s P)),((nat_lit 113),(o155 s P)),((nat_lit 114),(o156 s P)),((nat_lit 116),(o158 s P)),((nat_lit 117),(o159 s P)),((nat_lit 119),(o161 s P)),((nat_lit 120),(o162 s P)),((nat_lit 121),(o163 s P)),((nat_lit 123),(o165 s P)),((nat_lit 124),(o166 s P)),((nat_lit 126),(o168 s P)),((nat_lit 127),(o169 s P)),((nat_lit 128),(o170 s P)),((nat_lit 130),(o172 s P)),((nat_lit 131),(o173 s P)),((nat_lit 133),(o175 s P)),((nat_lit 134),(o176 s P)),((nat_lit 135),(o177 s P)),((nat_lit 137),(o179 s P)),((nat_lit 138),(o180 s P)),((nat_lit 140),(o182 s P)),((nat_lit 141),(o183 s P)),((nat_lit 142),(o184 s P)),((nat_lit 144),(o186 s P)),((nat_lit 145),(o187 s P)),((nat_lit 147),(o189 s P)),((nat_lit 148),(o190 s P)),((nat_lit 149),(o191 s P)),((nat_lit 151),(o193 s P)),((nat_lit 152),(o194 s P)),((nat_lit 154),(o196 s P)),((nat_lit 155),(o197 s P)),((nat_lit 156),(o198 s P)),((nat_lit 158),(o200 s P)),((nat_lit 159),(o201 s P)),((nat_lit 161),(o203 s P)),((nat_lit 162),(o204 s P)),((nat_lit 163),(o205 s P)),((nat_lit 164),(o206 s P)),((nat_lit 166),(o208 s P)),((nat_lit 167),(o209 s P)),((nat_lit 169),(o211 s P)),((nat_lit 170),(o212 s P)),((nat_lit 171),(o213 s P)),((nat_lit 173),(o215 s P)),((nat_lit 174),(o216 s P)),((nat_lit 176),(o218 s P)),((nat_lit 177),(o219 s P)),((nat_lit 178),(o222 s P)),((nat_lit 180),(o224 s P)),((nat_lit 181),(o225 s P)),((nat_lit 183),(o227 s P)),((nat_lit 184),(o228 s P)),((nat_lit 185),(o229 s P)),((nat_lit 187),(o231 s P)),((nat_lit 188),(o232 s P)),((nat_lit 190),(o234 s P)),((nat_lit 191),(o235 s P)),((nat_lit 192),(o236 s P)),((nat_lit 194),(o238 s P)),((nat_lit 195),(o239 s P)),((nat_lit 197),(o241 s P)),((nat_lit 198),(o242 s P)),((nat_lit 206),(o250 s P)),((nat_lit 207),(o251 s P)),((nat_lit 209),(o253 s P)),((nat_lit 210),(o254 s P)),((nat_lit 212),(o256 s P)),((nat_lit 213),(o257 s P)),((nat_lit 214),(o258 s P)),((nat_lit 215),(o259 s P)),((nat_lit 216),(o260 s P)),((nat_lit 217),(o261 s P)),((nat_lit 218),(o262 s P)),((nat_lit 221),(o267 s P)),((nat_lit 223),(o269 s P)),((nat_lit 224),(o270 s P)),((nat_lit 226),(o272 s P)),((nat_lit 227),(o273 s P)),((nat_lit 228),(o274 s P)),((nat_lit 230),(o276 s P)),((nat_lit 231),(o277 s P)),((nat_lit 233),(o279 s P)),((nat_lit 234),(o280 s P)),((nat_lit 235),(o281 s P)),((nat_lit 237),(o283 s P)),((nat_lit 238),(o284 s P)),((nat_lit 240),(o286 s P)),((nat_lit 241),(o287 s P)),((nat_lit 242),(o288 s P)),((nat_lit 244),(o290 s P)),((nat_lit 245),(o291 s P)),((nat_lit 247),(o293 s P)),((nat_lit 248),(o294 s P)),((nat_lit 249),(o295 s P)),((nat_lit 252),(o298 s P)),((nat_lit 253),(o299 s P))]
noncomputable def asK : List Addr := [(nat_lit 2),(nat_lit 3),(nat_lit 15),(nat_lit 17),(nat_lit 18),(nat_lit 20),(nat_lit 21),(nat_lit 22),(nat_lit 25),(nat_lit 30),(nat_lit 31),(nat_lit 32),(nat_lit 34),(nat_lit 35),(nat_lit 37),(nat_lit 38),(nat_lit 39),(nat_lit 40),(nat_lit 41),(nat_lit 42),(nat_lit 45),(nat_lit 47),(nat_lit 48),(nat_lit 50),(nat_lit 51),(nat_lit 52),(nat_lit 54),(nat_lit 55),(nat_lit 57),(nat_lit 58),(nat_lit 59),(nat_lit 61),(nat_lit 62),(nat_lit 64),(nat_lit 65),(nat_lit 66),(nat_lit 73),(nat_lit 74),(nat_lit 75),(nat_lit 76),(nat_lit 79),(nat_lit 81),(nat_lit 82),(nat_lit 84),(nat_lit 85),(nat_lit 86),(nat_lit 88),(nat_lit 89),(nat_lit 91),(nat_lit 92),(nat_lit 93),(nat_lit 95),(nat_lit 96),(nat_lit 98),(nat_lit 99),(nat_lit 100),(nat_lit 102),(nat_lit 103),(nat_lit 105),(nat_lit 106),(nat_lit 107),(nat_lit 109),(nat_lit 110),(nat_lit 112),(nat_lit 113),(nat_lit 114),(nat_lit 116),(nat_lit 117),(nat_lit 119),(nat_lit 120),(nat_lit 121),(nat_lit 123),(nat_lit 124),(nat_lit 126),(nat_lit 127),(nat_lit 128),(nat_lit 130),(nat_lit 131),(nat_lit 133),(nat_lit 134),(nat_lit 135),(nat_lit 137),(nat_lit 138),(nat_lit 140),(nat_lit 141),(nat_lit 142),(nat_lit 144),(nat_lit 145),(nat_lit 147),(nat_lit 148),(nat_lit 149),(nat_lit 151),(nat_lit 152),(nat_lit 154),(nat_lit 155),(nat_lit 156),(nat_lit 158),(nat_lit 159),(nat_lit 161),(nat_lit 162),(nat_lit 163),(nat_lit 164),(nat_lit 166),(nat_lit 167),(nat_lit 169),(nat_lit 170),(nat_lit 171),(nat_lit 173),(nat_lit 174),(nat_lit 176),(nat_lit 177),(nat_lit 178),(nat_lit 180),(nat_lit 181),(nat_lit 183),(nat_lit 184),(nat_lit 185),(nat_lit 187),(nat_lit 188),(nat_lit 190),(nat_lit 191),(nat_lit 192),(nat_lit 194),(nat_lit 195),(nat_lit 197),(nat_lit 198),(nat_lit 206),(nat_lit 207),(nat_lit 209),(nat_lit 210),(nat_lit 212),(nat_lit 213),(nat_lit 214),(nat_lit 215),(nat_lit 216),(nat_lit 217),(nat_lit 218),(nat_lit 221),(nat_lit 223),(nat_lit 224),(nat_lit 226),(nat_lit 227),(nat_lit 228),(nat_lit 230),(nat_lit 231),(nat_lit 233),(nat_lit 234),(nat_lit 235),(nat_lit 237),(nat_lit 238),(nat_lit 240),(nat_lit 241),(nat_lit 242),(nat_lit 244),(nat_lit 245),(nat_lit 247),(nat_lit 248),(nat_lit 249),(nat_lit 252),(nat_lit 253)]
noncomputable def view : Program := viewG s0
noncomputable def K : Params → Frag := fun P => ((nat_lit 2),⟨.none,none,(.dict #[⟨(PySem.PyData.keyHash P "type.__subclasses__.Exception.0"),(.str "type.__subclasses__.Exception.0" 230),(.int 41 0)⟩,⟨(PySem.PyData.keyHash P "type.__subclasses__.Exception.n"),(.str "type.__subclasses__.Exception.n" 231),(.int 2 0)⟩,⟨(PySem.PyData.keyHash P "type.__subclasses__.Exception.1"),(.str "type.__subclasses__.Exception.1" 288),(.int 75 0)⟩] 3),#[]⟩)::((nat_lit 3),⟨(.type "dict"),none,(.dict (List.toArray (⟨(PySem.PyData.keyHash P "__name__"),(.str "__name__" 165),(.str "law_pf0007_01" 556)⟩::⟨(PySem.PyData.keyHash P "__doc__"),(.str "__doc__" 166),.none⟩::⟨(PySem.PyData.keyHash P "__package__"),(.str "__package__" 167),.none⟩::⟨(PySem.PyData.keyHash P "__loader__"),(.str "__loader__" 168),(.builtin "__main__.__loader__#opaque")⟩::⟨(PySem.PyData.keyHash P "__spec__"),(.str "__spec__" 169),.none⟩::⟨(PySem.PyData.keyHash P "__annotations__"),(.str "__annotations__" 170),(.ref 6)⟩::⟨(PySem.PyData.keyHash P "__builtins__"),(.str "__builtins__" 171),(.ref 4)⟩::⟨(PySem.PyData.keyHash P "__file__"),(.str "__file__" 173),(.str "/claim/cut.py" 172)⟩::⟨(PySem.PyData.keyHash P "__cached__"),(.str "__cached__" 174),.none⟩::⟨(PySem.PyData.keyHash P "end_row"),(.str "end_row" 195),(.ref 21)⟩::⟨(PySem.PyData.keyHash P "MOST_EXPONENT"),(.str "MOST_EXPONENT" 199),(.int 99 198)⟩::⟨(PySem.PyData.keyHash P "BasicError"),(.str "BasicError" 233),(.ref 41)⟩::⟨(PySem.PyData.keyHash P "figures_of"),(.str "figures_of" 242),(.ref 51)⟩::⟨(PySem.PyData.keyHash P "rounded_by"),(.str "rounded_by" 253),(.ref 58)⟩::⟨(PySem.PyData.keyHash P "made"),(.str "made" 265),(.ref 65)⟩::⟨(PySem.PyData.keyHash P "AGAIN"),(.str "AGAIN" 269),(.str "?Redo from start" 268)⟩::⟨(PySem.PyData.keyHash P "BLANKS_inputs"),(.str "BLANKS_inputs" 271),(.str " \t" 270)⟩::⟨(PySem.PyData.keyHash P "Waiting"),(.str "Waiting" 291),(.ref 75)⟩::⟨(PySem.PyData.keyHash P "blank_end"),(.str "blank_end" 299),(.ref 85)⟩::⟨(PySem.PyData.keyHash P "quoted_field"),(.str "quoted_field" 308),(.ref 92)⟩::⟨(PySem.PyData.keyHash P "field_at"),(.str "field_at" 318),(.ref 99)⟩::⟨(PySem.PyData.keyHash P "told_fields"),(.str "told_fields" 331),(.ref 106)⟩::⟨(PySem.PyData.keyHash P "value_of_field"),(.str "value_of_field" 340),(.ref 113)⟩::⟨(PySem.PyData.keyHash P "fitted_values"),(.str "fitted_values" 355),(.ref 120)⟩::⟨(PySem.PyData.keyHash P "next_input"),(.str "next_input" 362),(.ref 127)⟩::⟨(PySem.PyData.keyHash P "write_prompt"),(.str "write_prompt" 371),(.ref 134)⟩::⟨(PySem.PyData.keyHash P "ask_values"),(.str "ask_values" 383),(.ref 141)⟩::⟨(PySem.PyData.keyHash P "text_of_item"),(.str "text_of_item" 392),(.ref 148)⟩::⟨(PySem.PyData.keyHash P "read_item"),(.str "read_item" 404),(.ref 155)⟩::⟨(PySem.PyData.keyHash P "pieces_of"),(.str "pieces_of" 417),(.ref 162)⟩::⟨(PySem.PyData.keyHash P "NOUGHT"),(.str "NOUGHT" 422),(.ref 163)⟩::⟨(PySem.PyData.keyHash P "MOST_FIGURES"),(.str "MOST_FIGURES" 424),(.int 300 423)⟩::⟨(PySem.PyData.keyHash P "MOST_POWER"),(.str "MOST_POWER" 426),(.int 9999 425)⟩::⟨(PySem.PyData.keyHash P "BLANKS_decimals"),(.str "BLANKS_decimals" 428),(.str " \t" 427)⟩::⟨(PySem.PyData.keyHash P "run_of_figures"),(.str "run_of_figures" 438),(.ref 170)⟩::⟨(PySem.PyData.keyHash P "exponent_at"),(.str "exponent_at" 451),(.ref 177)⟩::⟨(PySem.PyData.keyHash P "d_of_text"),(.str "d_of_text" 467),(.ref 184)⟩::⟨(PySem.PyData.keyHash P "told_decimal"),(.str "told_decimal" 477),(.ref 191)⟩::⟨(PySem.PyData.keyHash P "number_by_text"),(.str "number_by_text" 488),(.ref 198)⟩::⟨(PySem.PyData.keyHash P "World"),(.str "World" 555),(.ref 216)⟩::⟨(PySem.PyData.keyHash P "_law_next"),(.str "_law_next" 566),(.ref 227)⟩::⟨(PySem.PyData.keyHash P "_law_bare"),(.str "_law_bare" 574),(.ref 234)⟩::⟨(PySem.PyData.keyHash P "_law_field"),(.str "_law_field" 590),(.ref 241)⟩::⟨(PySem.PyData.keyHash P "_law_read"),(.str "_law_read" 601),(.ref 248)⟩::⟨(PySem.PyData.keyHash P "law"),(.str "law" 607),(.ref 253)⟩::[])) 45),#[]⟩)::((nat_lit 15),⟨(.type "tuple"),none,(.seq #[] 0),#[]⟩)::((nat_lit 17),⟨(.type "tuple"),none,(.seq #[(.str "page" 192)] 0),#[]⟩)::((nat_lit 18),⟨(.type "tuple"),none,(.seq #[] 0),#[]⟩)::((nat_lit 20),⟨(.type "code"),none,(.fields (List.toArray ((.str "end_row" 189)::(.str "end_row" 190)::(.str "/claim/cut.py" 191)::(.int 2 0)::(.int 1 0)::(.int 0 0)::(.int 0 0)::(.int 3 0)::(.ref 15)::(.bool true)::(.int 181 0)::(.ref 16)::.none::(.ref 17)::(.ref 18)::(.ref 19)::(.int 193 0)::(.int 2 0)::(.str "/claim/cut.py" 194)::[]))),#[]⟩)::((nat_lit 21),⟨(.type "function"),none,(.func ⟨"end_row","end_row",tA1,(.stmts tB1),tS1,3,[],.none,.none,.none,(.str "basicplus.printing" 187),none,(.ref 20),.none,0⟩),#[]⟩)::((nat_lit 22),⟨(.type "tuple"),none,(.seq #[(.type "Exception")] 0),#[]⟩)::((nat_lit 25),⟨(.type "cell"),none,(.cell (some (.ref 41))),#[]⟩)::((nat_lit 30),⟨(.type "tuple"),none,(.seq #[(.str "" 212)] 0),#[]⟩)::((nat_lit 31),⟨(.type "tuple"),none,(.seq #[(.ref 25)] 0),#[]⟩)::((nat_lit 32),⟨(.type "tuple"),none,(.seq #[(.str "__class__" 216)] 0),#[]⟩)::((nat_lit 34),⟨(.type "tuple"),none,(.seq #[(.str "self" 217),(.str "code" 218),(.str "told" 219)] 0),#[]⟩)::((nat_lit 35),⟨(.type "tuple"),none,(.seq #[] 0),#[]⟩)::((nat_lit 37),⟨(.type "code"),none,(.fields (List.toArray ((.str "__init__" 213)::(.str "BasicError.__init__" 214)::(.str "/claim/cut.py" 215)::(.int 9 0)::(.int 3 0)::(.int 0 0)::(.int 0 0)::(.int 3 0)::(.ref 32)::(.bool true)::(.int 181 0)::(.ref 33)::.none::(.ref 34)::(.ref 35)::(.ref 36)::(.int 220 0)::(.int 9 0)::(.str "/claim/cut.py" 221)::[]))),#[]⟩)::((nat_lit 38),⟨(.type "function"),none,(.func ⟨"__init__","BasicError.__init__",tA4,(.stmts tB4),tS4,3,[("__class__",25)],(.ref 30),.none,.none,(.str "basicplus.values" 196),none,(.ref 37),(.ref 31),0⟩),#[]⟩)::((nat_lit 39),⟨(.type "tuple"),none,(.seq #[(.str "code" 223),(.str "told" 224)] 0),#[]⟩)::((nat_lit 40),⟨(.type "dict"),none,(.dict #[⟨(PySem.PyData.keyHash P "__module__"),(.str "__module__" 207),(.str "basicplus.values" 196)⟩,⟨(PySem.PyData.keyHash P "__firstlineno__"),(.str "__firstlineno__" 211),(.int 7 210)⟩,⟨(PySem.PyData.keyHash P "__init__"),(.str "__init__" 222),(.ref 38)⟩,⟨(PySem.PyData.keyHash P "__static_attributes__"),(.str "__static_attributes__" 225),(.ref 39)⟩,⟨(PySem.PyData.keyHash P "__weakref__"),(.str "__weakref__" 228),(.ref 42)⟩,⟨(PySem.PyData.keyHash P "__doc__"),(.str "__doc__" 229),.none⟩] 4),#[]⟩)::((nat_lit 41),⟨(.type "type"),none,(.cls ⟨"BasicError",[(.type "Exception")],((.ref 41)::([(.type "Exception"),(.type "BaseException"),(.type "object")])),40,"BasicError",true,[],[],false,none,false⟩),(List.toArray ((some (.ref 22))::none::(some (.str "BasicError" 200))::(some (.str "BasicError" 208))::([(some (.builtin "Exception.__new__")),(some (.bool true))])))⟩)::((nat_lit 42),⟨(.type "getset_descriptor"),none,(.fields (List.toArray ((.str "__weakref__" 227)::(.ref 41)::([(.builtin "ExceptionGroup.__weakref__"),.none])))),#[]⟩)::((nat_lit 45),⟨(.type "tuple"),none,(.seq #[] 0),#[]⟩)::((nat_lit 47),⟨(.type "tuple"),none,(.seq #[(.str "number" 237),(.str "many" 238),(.str "bound" 239)] 0),#[]⟩)::((nat_lit 48),⟨(.type "tuple"),none,(.seq #[] 0),#[]⟩)::((nat_lit 50),⟨(.type "code"),none,(.fields (List.toArray ((.str "figures_of" 234)::(.str "figures_of" 235)::(.str "/claim/cut.py" 236)::(.int 13 0)::(.int 1 0)::(.int 0 0)::(.int 0 0)::(.int 3 0)::(.ref 45)::(.bool true)::(.int 181 0)::(.ref 46)::.none::(.ref 47)::(.ref 48)::(.ref 49)::(.int 240 0)::(.int 13 0)::(.str "/claim/cut.py" 241)::[]))),#[]⟩)::((nat_lit 51),⟨(.type "function"),none,(.func ⟨"figures_of","figures_of",tA5,(.stmts tB5),tS5,3,[],.none,.none,.none,(.str "basicplus.values" 196),none,(.ref 50),.none,0⟩),#[]⟩)::((nat_lit 52),⟨(.type "tuple"),none,(.seq #[] 0),#[]⟩)::((nat_lit 54),⟨(.type "tuple"),none,(.seq #[(.str "number" 246),(.str "places" 247),(.str "unit" 248),(.str "found" 249),(.str "rest" 250)] 0),#[]⟩)::((nat_lit 55),⟨(.type "tuple"),none,(.seq #[] 0),#[]⟩)::((nat_lit 57),⟨(.type "code"),none,(.fields (List.toArray ((.str "rounded_by" 243)::(.str "rounded_by" 244)::(.str "/claim/cut.py" 245)::(.int 19 0)::(.int 2 0)::(.int 0 0)::(.int 0 0)::(.int 3 0)::(.ref 52)::(.bool true)::(.int 181 0)::(.ref 53)::.none::(.ref 54)::(.ref 55)::(.ref 56)::(.int 251 0)::(.int 19 0)::(.str "/claim/cut.py" 252)::[]))),#[]⟩)::((nat_lit 58),⟨(.type "function"),none,(.func ⟨"rounded_by","rounded_by",tA6,(.stmts tB6),tS6,3,[],.none,.none,.none,(.str "basicplus.values" 196),none,(.ref 57),.none,0⟩),#[]⟩)::((nat_lit 59),⟨(.type "tuple"),none,(.seq #[] 0),#[]⟩)::((nat_lit 61),⟨(.type "tuple"),none,(.seq #[(.str "coefficient" 257),(.str "exponent" 258),(.str "digits" 259),(.str "size" 260),(.str "more" 261),(.str "first" 262)] 0),#[]⟩)::((nat_lit 62),⟨(.type "tuple"),none,(.seq #[] 0),#[]⟩)::((nat_lit 64),⟨(.type "code"),none,(.fields (List.toArray ((.str "made" 254)::(.str "made" 255)::(.str "/claim/cut.py" 256)::(.int 29 0)::(.int 3 0)::(.int 0 0)::(.int 0 0)::(.int 3 0)::(.ref 59)::(.bool true)::(.int 181 0)::(.ref 60)::.none::(.ref 61)::(.ref 62)::(.ref 63)::(.int 263 0)::(.int 29 0)::(.str "/claim/cut.py" 264)::[]))),#[]⟩)::((nat_lit 65),⟨(.type "function"),none,(.func ⟨"made","made",tA7,(.stmts tB7),tS7,3,[],.none,.none,.none,(.str "basicplus.values" 196),none,(.ref 64),.none,0⟩),#[]⟩)::((nat_lit 66),⟨(.type "tuple"),none,(.seq #[(.type "Exception")] 0),#[]⟩)::((nat_lit 73),⟨(.type "tuple"),none,(.seq #[] 0),#[]⟩)::((nat_lit 74),⟨(.type "dict"),none,(.dict #[⟨(PySem.PyData.keyHash P "__module__"),(.str "__module__" 279),(.str "basicplus.inputs" 266)⟩,⟨(PySem.PyData.keyHash P "__firstlineno__"),(.str "__firstlineno__" 283),(.int 47 282)⟩,⟨(PySem.PyData.keyHash P "__static_attributes__"),(.str "__static_attributes__" 284),(.ref 73)⟩,⟨(PySem.PyData.keyHash P "__weakref__"),(.str "__weakref__" 286),(.ref 76)⟩,⟨(PySem.PyData.keyHash P "__doc__"),(.str "__doc__" 287),.none⟩] 3),#[]⟩)::((nat_lit 75),⟨(.type "type"),none,(.cls ⟨"Waiting",[(.type "Exception")],((.ref 75)::([(.type "Exception"),(.type "BaseException"),(.type "object")])),74,"Waiting",true,[],[],false,none,false⟩),(List.toArray ((some (.ref 66))::none::(some (.str "Waiting" 272))::(some (.str "Waiting" 280))::([(some (.builtin "Exception.__new__")),(some (.bool true))])))⟩)::((nat_lit 76),⟨(.type "getset_descriptor"),none,(.fields (List.toArray ((.str "__weakref__" 285)::(.ref 75)::([(.builtin "ExceptionGroup.__weakref__"),.none])))),#[]⟩)::((nat_lit 79),⟨(.type "tuple"),none,(.seq #[] 0),#[]⟩)::((nat_lit 81),⟨(.type "tuple"),none,(.seq #[(.str "text" 295),(.str "at" 296)] 0),#[]⟩)::((nat_lit 82),⟨(.type "tuple"),none,(.seq #[] 0),#[]⟩)::((nat_lit 84),⟨(.type "code"),none,(.fields (List.toArray ((.str "blank_end" 292)::(.str "blank_end" 293)::(.str "/claim/cut.py" 294)::(.int 49 0)::(.int 2 0)::(.int 0 0)::(.int 0 0)::(.int 3 0)::(.ref 79)::(.bool true)::(.int 181 0)::(.ref 80)::.none::(.ref 81)::(.ref 82)::(.ref 83)::(.int 297 0)::(.int 49 0)::(.str "/claim/cut.py" 298)::[]))),#[]⟩)::((nat_lit 85),⟨(.type "function"),none,(.func ⟨"blank_end","blank_end",tA12,(.stmts tB12),tS12,3,[],.none,.none,.none,(.str "basicplus.inputs" 266),none,(.ref 84),.none,0⟩),#[]⟩)::((nat_lit 86),⟨(.type "tuple"),none,(.seq #[] 0),#[]⟩)::((nat_lit 88),⟨(.type "tuple"),none,(.seq #[(.str "text" 303),(.str "at" 304),(.str "end" 305)] 0),#[]⟩)::((nat_lit 89),⟨(.type "tuple"),none,(.seq #[] 0),#[]⟩)::((nat_lit 91),⟨(.type "code"),none,(.fields (List.toArray ((.str "quoted_field" 300)::(.str "quoted_field" 301)::(.str "/claim/cut.py" 302)::(.int 53 0)::(.int 2 0)::(.int 0 0)::(.int 0 0)::(.int 3 0)::(.ref 86)::(.bool true)::(.int 181 0)::(.ref 87)::.none::(.ref 88)::(.ref 89)::(.ref 90)::(.int 306 0)::(.int 53 0)::(.str "/claim/cut.py" 307)::[]))),#[]⟩)::((nat_lit 92),⟨(.type "function"),none,(.func ⟨"quoted_field","quoted_field",tA13,(.stmts tB13),tS13,3,[],.none,.none,.none,(.str "basicplus.inputs" 266),none,(.ref 91),.none,0⟩),#[]⟩)::((nat_lit 93),⟨(.type "tuple"),none,(.seq #[] 0),#[]⟩)::((nat_lit 95),⟨(.type "tuple"),none,(.seq #[(.str "text" 312),(.str "at" 313),(.str "found" 314),(.str "end" 315)] 0),#[]⟩)::((nat_lit 96),⟨(.type "tuple"),none,(.seq #[] 0),#[]⟩)::((nat_lit 98),⟨(.type "code"),none,(.fields (List.toArray ((.str "field_at" 309)::(.str "field_at" 310)::(.str "/claim/cut.py" 311)::(.int 58 0)::(.int 2 0)::(.int 0 0)::(.int 0 0)::(.int 3 0)::(.ref 93)::(.bool true)::(.int 181 0)::(.ref 94)::.none::(.ref 95)::(.ref 96)::(.ref 97)::(.int 316 0)::(.int 58 0)::(.str "/claim/cut.py" 317)::[]))),#[]⟩)::((nat_lit 99),⟨(.type "function"),none,(.func ⟨"field_at","field_at",tA14,(.stmts tB14),tS14,3,[],.none,.none,.none,(.str "basicplus.inputs" 266),none,(.ref 98),.none,0⟩),#[]⟩)::((nat_lit 100),⟨(.type "tuple"),none,(.seq #[] 0),#[]⟩)::((nat_lit 102),⟨(.type "tuple"),none,(.seq #[(.str "text" 322),(.str "found" 323),(.str "at" 324),(.str "is_going" 325),(.str "field" 326),(.str "end" 327),(.str "is_quoted" 328)] 0),#[]⟩)::((nat_lit 103),⟨(.type "tuple"),none,(.seq #[] 0),#[]⟩)::((nat_lit 105),⟨(.type "code"),none,(.fields (List.toArray ((.str "told_fields" 319)::(.str "told_fields" 320)::(.str "/claim/cut.py" 321)::(.int 66 0)::(.int 1 0)::(.int 0 0)::(.int 0 0)::(.int 3 0)::(.ref 100)::(.bool true)::(.int 181 0)::(.ref 101)::.none::(.ref 102)::(.ref 103)::(.ref 104)::(.int 329 0)::(.int 66 0)::(.str "/claim/cut.py" 330)::[]))),#[]⟩)::((nat_lit 106),⟨(.type "function"),none,(.func ⟨"told_fields","told_fields",tA15,(.stmts tB15),tS15,3,[],.none,.none,.none,(.str "basicplus.inputs" 266),none,(.ref 105),.none,0⟩),#[]⟩)::((nat_lit 107),⟨(.type "tuple"),none,(.seq #[] 0),#[]⟩)::((nat_lit 109),⟨(.type "tuple"),none,(.seq #[(.str "field" 335),(.str "kind" 336),(.str "read_number" 337)] 0),#[]⟩)::((nat_lit 110),⟨(.type "tuple"),none,(.seq #[] 0),#[]⟩)::((nat_lit 112),⟨(.type "code"),none,(.fields (List.toArray ((.str "value_of_field" 332)::(.str "value_of_field" 333)::(.str "/claim/cut.py" 334)::(.int 76 0)::(.int 3 0)::(.int 0 0)::(.int 0 0)::(.int 3 0)::(.ref 107)::(.bool true)::(.int 181 0)::(.ref 108)::.none::(.ref 109)::(.ref 110)::(.ref 111)::(.int 338 0)::(.int 76 0)::(.str "/claim/cut.py" 339)::[]))),#[]⟩)::((nat_lit 113),⟨(.type "function"),none,(.func ⟨"value_of_field","value_of_field",tA16,(.stmts tB16),tS16,3,[],.none,.none,.none,(.str "basicplus.inputs" 266),none,(.ref 112),.none,0⟩),#[]⟩)::((nat_lit 114),⟨(.type "tuple"),none,(.seq #[] 0),#[]⟩)::((nat_lit 116),⟨(.type "tuple"),none,(.seq #[(.str "kinds" 344),(.str "text" 345),(.str "read_number" 346),(.str "fields" 347),(.str "found" 348),(.str "field" 349),(.str "is_quoted" 350),(.str "kind" 351),(.str "value" 352)] 0),#[]⟩)::((nat_lit 117),⟨(.type "tuple"),none,(.seq #[] 0),#[]⟩)::((nat_lit 119),⟨(.type "code"),none,(.fields (List.toArray ((.str "fitted_values" 341)::(.str "fitted_values" 342)::(.str "/claim/cut.py" 343)::(.int 80 0)::(.int 3 0)::(.int 0 0)::(.int 0 0)::(.int 3 0)::(.ref 114)::(.bool true)::(.int 181 0)::(.ref 115)::.none::(.ref 116)::(.ref 117)::(.ref 118)::(.int 353 0)::(.int 80 0)::(.str "/claim/cut.py" 354)::[]))),#[]⟩)::((nat_lit 120),⟨(.type "function"),none,(.func ⟨"fitted_values","fitted_values",tA17,(.stmts tB17),tS17,3,[],.none,.none,.none,(.str "basicplus.inputs" 266),none,(.ref 119),.none,0⟩),#[]⟩)::((nat_lit 121),⟨(.type "tuple"),none,(.seq #[] 0),#[]⟩)::((nat_lit 123),⟨(.type "tuple"),none,(.seq #[(.str "world" 359)] 0),#[]⟩)::((nat_lit 124),⟨(.type "tuple"),none,(.seq #[] 0),#[]⟩)::((nat_lit 126),⟨(.type "code"),none,(.fields (List.toArray ((.str "next_input" 356)::(.str "next_input" 357)::(.str "/claim/cut.py" 358)::(.int 91 0)::(.int 1 0)::(.int 0 0)::(.int 0 0)::(.int 3 0)::(.ref 121)::(.bool true)::(.int 181 0)::(.ref 122)::.none::(.ref 123)::(.ref 124)::(.ref 125)::(.int 360 0)::(.int 91 0)::(.str "/claim/cut.py" 361)::[]))),#[]⟩)::((nat_lit 127),⟨(.type "function"),none,(.func ⟨"next_input","next_input",tA18,(.stmts tB18),tS18,3,[],.none,.none,.none,(.str "basicplus.inputs" 266),none,(.ref 126),.none,0⟩),#[]⟩)::((nat_lit 128),⟨(.type "tuple"),none,(.seq #[] 0),#[]⟩)::((nat_lit 130),⟨(.type "tuple"),none,(.seq #[(.str "world" 366),(.str "prompt" 367),(.str "is_marked" 368)] 0),#[]⟩)::((nat_lit 131),⟨(.type "tuple"),none,(.seq #[] 0),#[]⟩)::((nat_lit 133),⟨(.type "code"),none,(.fields (List.toArray ((.str "write_prompt" 363)::(.str "write_prompt" 364)::(.str "/claim/cut.py" 365)::(.int 95 0)::(.int 3 0)::(.int 0 0)::(.int 0 0)::(.int 3 0)::(.ref 128)::(.bool true)::(.int 181 0)::(.ref 129)::.none::(.ref 130)::(.ref 131)::(.ref 132)::(.int 369 0)::(.int 95 0)::(.str "/claim/cut.py" 370)::[]))),#[]⟩)::((nat_lit 134),⟨(.type "function"),none,(.func ⟨"write_prompt","write_prompt",tA19,(.stmts tB19),tS19,3,[],.none,.none,.none,(.str "basicplus.inputs" 266),none,(.ref 133),.none,0⟩),#[]⟩)::((nat_lit 135),⟨(.type "tuple"),none,(.seq #[] 0),#[]⟩)::((nat_lit 137),⟨(.type "tuple"),none,(.seq #[(.str "world" 375),(.str "prompt" 376),(.str "is_marked" 377),(.str "kinds" 378),(.str "read_number" 379),(.str "found" 380)] 0),#[]⟩)::((nat_lit 138),⟨(.type "tuple"),none,(.seq #[] 0),#[]⟩)::((nat_lit 140),⟨(.type "code"),none,(.fields (List.toArray ((.str "ask_values" 372)::(.str "ask_values" 373)::(.str "/claim/cut.py" 374)::(.int 99 0)::(.int 5 0)::(.int 0 0)::(.int 0 0)::(.int 3 0)::(.ref 135)::(.bool true)::(.int 181 0)::(.ref 136)::.none::(.ref 137)::(.ref 138)::(.ref 139)::(.int 381 0)::(.int 99 0)::(.str "/claim/cut.py" 382)::[]))),#[]⟩)::((nat_lit 141),⟨(.type "function"),none,(.func ⟨"ask_values","ask_values",tA20,(.stmts tB20),tS20,3,[],.none,.none,.none,(.str "basicplus.inputs" 266),none,(.ref 140),.none,0⟩),#[]⟩)::((nat_lit 142),⟨(.type "tuple"),none,(.seq #[] 0),#[]⟩)::((nat_lit 144),⟨(.type "tuple"),none,(.seq #[(.str "item" 387),(.str "found" 388),(.str "end" 389)] 0),#[]⟩)::((nat_lit 145),⟨(.type "tuple"),none,(.seq #[] 0),#[]⟩)::((nat_lit 147),⟨(.type "code"),none,(.fields (List.toArray ((.str "text_of_item" 384)::(.str "text_of_item" 385)::(.str "/claim/cut.py" 386)::(.int 110 0)::(.int 1 0)::(.int 0 0)::(.int 0 0)::(.int 3 0)::(.ref 142)::(.bool true)::(.int 181 0)::(.ref 143)::.none::(.ref 144)::(.ref 145)::(.ref 146)::(.int 390 0)::(.int 110 0)::(.str "/claim/cut.py" 391)::[]))),#[]⟩)::((nat_lit 148),⟨(.type "function"),none,(.func ⟨"text_of_item","text_of_item",tA21,(.stmts tB21),tS21,3,[],.none,.none,.none,(.str "basicplus.inputs" 266),none,(.ref 147),.none,0⟩),#[]⟩)::((nat_lit 149),⟨(.type "tuple"),none,(.seq #[] 0),#[]⟩)::((nat_lit 151),⟨(.type "tuple"),none,(.seq #[(.str "world" 396),(.str "kind" 397),(.str "read_number" 398),(.str "line" 399),(.str "item" 400),(.str "value" 401)] 0),#[]⟩)::((nat_lit 152),⟨(.type "tuple"),none,(.seq #[] 0),#[]⟩)::((nat_lit 154),⟨(.type "code"),none,(.fields (List.toArray ((.str "read_item" 393)::(.str "read_item" 394)::(.str "/claim/cut.py" 395)::(.int 115 0)::(.int 3 0)::(.int 0 0)::(.int 0 0)::(.int 3 0)::(.ref 149)::(.bool true)::(.int 181 0)::(.ref 150)::.none::(.ref 151)::(.ref 152)::(.ref 153)::(.int 402 0)::(.int 115 0)::(.str "/claim/cut.py" 403)::[]))),#[]⟩)::((nat_lit 155),⟨(.type "function"),none,(.func ⟨"read_item","read_item",tA22,(.stmts tB22),tS22,3,[],.none,.none,.none,(.str "basicplus.inputs" 266),none,(.ref 154),.none,0⟩),#[]⟩)::((nat_lit 156),⟨(.type "tuple"),none,(.seq #[] 0),#[]⟩)::((nat_lit 158),⟨(.type "tuple"),none,(.seq #[(.str "text" 410),(.str "found" 411),(.str "here" 412),(.str "is_quoted" 413),(.str "sign" 414)] 0),#[]⟩)::((nat_lit 159),⟨(.type "tuple"),none,(.seq #[] 0),#[]⟩)::((nat_lit 161),⟨(.type "code"),none,(.fields (List.toArray ((.str "pieces_of" 407)::(.str "pieces_of" 408)::(.str "/claim/cut.py" 409)::(.int 125 0)::(.int 1 0)::(.int 0 0)::(.int 0 0)::(.int 3 0)::(.ref 156)::(.bool true)::(.int 181 0)::(.ref 157)::.none::(.ref 158)::(.ref 159)::(.ref 160)::(.int 415 0)::(.int 125 0)::(.str "/claim/cut.py" 416)::[]))),#[]⟩)::((nat_lit 162),⟨(.type "function"),none,(.func ⟨"pieces_of","pieces_of",tA24,(.stmts tB24),tS24,3,[],.none,.none,.none,(.str "basicplus.declread" 405),none,(.ref 161),.none,0⟩),#[]⟩)::((nat_lit 163),⟨(.type "tuple"),none,(.seq #[(.int 0 420),(.int 0 421)] 0),#[]⟩)::((nat_lit 164),⟨(.type "tuple"),none,(.seq #[] 0),#[]⟩)::((nat_lit 166),⟨(.type "tuple"),none,(.seq #[(.str "text" 432),(.str "at" 433),(.str "found" 434),(.str "begin" 435)] 0),#[]⟩)::((nat_lit 167),⟨(.type "tuple"),none,(.seq #[] 0),#[]⟩)::((nat_lit 169),⟨(.type "code"),none,(.fields (List.toArray ((.str "run_of_figures" 429)::(.str "run_of_figures" 430)::(.str "/claim/cut.py" 431)::(.int 141 0)::(.int 2 0)::(.int 0 0)::(.int 0 0)::(.int 3 0)::(.ref 164)::(.bool true)::(.int 181 0)::(.ref 165)::.none::(.ref 166)::(.ref 167)::(.ref 168)::(.int 436 0)::(.int 141 0)::(.str "/claim/cut.py" 437)::[]))),#[]⟩)::((nat_lit 170),⟨(.type "function"),none,(.func ⟨"run_of_figures","run_of_figures",tA30,(.stmts tB30),tS30,3,[],.none,.none,.none,(.str "basicplus.decimals" 418),none,(.ref 169),.none,0⟩),#[]⟩)::((nat_lit 171),⟨(.type "tuple"),none,(.seq #[] 0),#[]⟩)::((nat_lit 173),⟨(.type "tuple"),none,(.seq #[(.str "text" 442),(.str "at" 443),(.str "begin" 444),(.str "sign" 445),(.str "found" 446),(.str "many" 447),(.str "end" 448)] 0),#[]⟩)::((nat_lit 174),⟨(.type "tuple"),none,(.seq #[] 0),#[]⟩)::((nat_lit 176),⟨(.type "code"),none,(.fields (List.toArray ((.str "exponent_at" 439)::(.str "exponent_at" 440)::(.str "/claim/cut.py" 441)::(.int 147 0)::(.int 2 0)::(.int 0 0)::(.int 0 0)::(.int 3 0)::(.ref 171)::(.bool true)::(.int 181 0)::(.ref 172)::.none::(.ref 173)::(.ref 174)::(.ref 175)::(.int 449 0)::(.int 147 0)::(.str "/claim/cut.py" 450)::[]))),#[]⟩)::((nat_lit 177),⟨(.type "function"),none,(.func ⟨"exponent_at","exponent_at",tA31,(.stmts tB31),tS31,3,[],.none,.none,.none,(.str "basicplus.decimals" 418),none,(.ref 176),.none,0⟩),#[]⟩)::((nat_lit 178),⟨(.type "tuple"),none,(.seq #[] 0),#[]⟩)::((nat_lit 180),⟨(.type "tuple"),none,(.seq #[(.str "text" 455),(.str "digits" 456),(.str "at" 457),(.str "is_below" 458),(.str "found" 459),(.str "ahead" 460),(.str "behind" 461),(.str "more" 462),(.str "end" 463),(.str "exponent" 464)] 0),#[]⟩)::((nat_lit 181),⟨(.type "tuple"),none,(.seq #[] 0),#[]⟩)::((nat_lit 183),⟨(.type "code"),none,(.fields (List.toArray ((.str "d_of_text" 452)::(.str "d_of_text" 453)::(.str "/claim/cut.py" 454)::(.int 158 0)::(.int 2 0)::(.int 0 0)::(.int 0 0)::(.int 3 0)::(.ref 178)::(.bool true)::(.int 181 0)::(.ref 179)::.none::(.ref 180)::(.ref 181)::(.ref 182)::(.int 465 0)::(.int 158 0)::(.str "/claim/cut.py" 466)::[]))),#[]⟩)::((nat_lit 184),⟨(.type "function"),none,(.func ⟨"d_of_text","d_of_text",tA32,(.stmts tB32),tS32,3,[],.none,.none,.none,(.str "basicplus.decimals" 418),none,(.ref 183),.none,0⟩),#[]⟩)::((nat_lit 185),⟨(.type "tuple"),none,(.seq #[] 0),#[]⟩)::((nat_lit 187),⟨(.type "tuple"),none,(.seq #[(.str "coefficient" 471),(.str "exponent" 472),(.str "digits" 473),(.str "top" 474)] 0),#[]⟩)::((nat_lit 188),⟨(.type "tuple"),none,(.seq #[] 0),#[]⟩)::((nat_lit 190),⟨(.type "code"),none,(.fields (List.toArray ((.str "told_decimal" 468)::(.str "told_decimal" 469)::(.str "/claim/cut.py" 470)::(.int 174 0)::(.int 3 0)::(.int 0 0)::(.int 0 0)::(.int 3 0)::(.ref 185)::(.bool true)::(.int 181 0)::(.ref 186)::.none::(.ref 187)::(.ref 188)::(.ref 189)::(.int 475 0)::(.int 174 0)::(.str "/claim/cut.py" 476)::[]))),#[]⟩)::((nat_lit 191),⟨(.type "function"),none,(.func ⟨"told_decimal","told_decimal",tA33,(.stmts tB33),tS33,3,[],.none,.none,.none,(.str "basicplus.decimals" 418),none,(.ref 190),.none,0⟩),#[]⟩)::((nat_lit 192),⟨(.type "tuple"),none,(.seq #[] 0),#[]⟩)::((nat_lit 194),⟨(.type "tuple"),none,(.seq #[(.str "text" 483),(.str "digits" 484),(.str "told" 485)] 0),#[]⟩)::((nat_lit 195),⟨(.type "tuple"),none,(.seq #[] 0),#[]⟩)::((nat_lit 197),⟨(.type "code"),none,(.fields (List.toArray ((.str "number_by_text" 480)::(.str "number_by_text" 481)::(.str "/claim/cut.py" 482)::(.int 182 0)::(.int 2 0)::(.int 0 0)::(.int 0 0)::(.int 3 0)::(.ref 192)::(.bool true)::(.int 181 0)::(.ref 193)::.none::(.ref 194)::(.ref 195)::(.ref 196)::(.int 486 0)::(.int 182 0)::(.str "/claim/cut.py" 487)::[]))),#[]⟩)::((nat_lit 198),⟨(.type "function"),none,(.func ⟨"number_by_text","number_by_text",tA35,(.stmts tB35),tS35,3,[],.none,.none,.none,(.str "basicplus.rundo" 478),none,(.ref 197),.none,0⟩),#[]⟩)::((nat_lit 206),⟨(.type "tuple"),none,(.seq #[(.int 16 503),(.int 9 504),(.int 2000 505),(.int 20 506),(.int 2000 507)] 0),#[]⟩)::((nat_lit 207),⟨(.type "tuple"),none,(.seq #[] 0),#[]⟩)::((nat_lit 209),⟨(.type "tuple"),none,(.seq #[(.str "self" 511),(.str "bits" 512),(.str "digits" 513),(.str "most_steps" 514),(.str "most_depth" 515),(.str "room" 516)] 0),#[]⟩)::((nat_lit 210),⟨(.type "tuple"),none,(.seq #[] 0),#[]⟩)::((nat_lit 212),⟨(.type "code"),none,(.fields (List.toArray ((.str "__init__" 508)::(.str "World.__init__" 509)::(.str "/claim/cut.py" 510)::(.int 188 0)::(.int 6 0)::(.int 0 0)::(.int 0 0)::(.int 3 0)::(.ref 207)::(.bool true)::(.int 181 0)::(.ref 208)::.none::(.ref 209)::(.ref 210)::(.ref 211)::(.int 517 0)::(.int 188 0)::(.str "/claim/cut.py" 518)::[]))),#[]⟩)::((nat_lit 213),⟨(.type "function"),none,(.func ⟨"__init__","World.__init__",tA37,(.stmts tB37),tS37,3,[],(.ref 206),.none,.none,(.str "basicplus.world" 489),none,(.ref 212),.none,0⟩),#[]⟩)::((nat_lit 214),⟨(.type "tuple"),none,(.seq (List.toArray ((.str "arrays" 520)::(.str "base" 521)::(.str "bits" 522)::(.str "common" 523)::(.str "data" 524)::(.str "depth" 525)::(.str "digits" 526)::(.str "error_code" 527)::(.str "error_line" 528)::(.str "fields" 529)::(.str "files" 530)::(.str "fns" 531)::(.str "handler" 532)::(.str "inputs" 533)::(.str "is_handling" 534)::(.str "is_traced" 535)::(.str "kinds" 536)::(.str "most_depth" 537)::(.str "most_steps" 538)::(.str "names" 539)::(.str "open" 540)::(.str "out" 541)::(.str "room" 542)::(.str "row" 543)::(.str "seed" 544)::(.str "spot" 545)::(.str "steps" 546)::(.str "traces" 547)::[])) 0),#[]⟩)::((nat_lit 215),⟨(.type "dict"),none,(.dict #[⟨(PySem.PyData.keyHash P "__module__"),(.str "__module__" 498),(.str "basicplus.world" 489)⟩,⟨(PySem.PyData.keyHash P "__firstlineno__"),(.str "__firstlineno__" 502),(.int 186 501)⟩,⟨(PySem.PyData.keyHash P "__init__"),(.str "__init__" 519),(.ref 213)⟩,⟨(PySem.PyData.keyHash P "__static_attributes__"),(.str "__static_attributes__" 548),(.ref 214)⟩,⟨(PySem.PyData.keyHash P "__dict__"),(.str "__dict__" 550),(.ref 217)⟩,⟨(PySem.PyData.keyHash P "__weakref__"),(.str "__weakref__" 552),(.ref 218)⟩,⟨(PySem.PyData.keyHash P "__doc__"),(.str "__doc__" 553),.none⟩] 4),#[]⟩)::((nat_lit 216),⟨(.type "type"),none,(.cls ⟨"World",[(.type "object")],[(.ref 216),(.type "object")],215,"World",true,[],[],false,none,false⟩),#[none,none,(some (.str "World" 491)),(some (.str "World" 499)),(some (.builtin "object.__new__")),(some (.bool true))]⟩)::((nat_lit 217),⟨(.type "getset_descriptor"),none,(.fields #[(.str "__dict__" 549),(.ref 216),(.builtin "function.__dict__"),(.builtin "function.__dict__#set")]),#[]⟩)::((nat_lit 218),⟨(.type "getset_descriptor"),none,(.fields (List.toArray ((.str "__weakref__" 551)::(.ref 216)::([(.builtin "ExceptionGroup.__weakref__"),.none])))),#[]⟩)::((nat_lit 221),⟨(.type "tuple"),none,(.seq #[] 0),#[]⟩)::((nat_lit 223),⟨(.type "tuple"),none,(.seq #[(.str "crate" 561),(.str "many" 562),(.str "turn" 563)] 0),#[]⟩)::((nat_lit 224),⟨(.type "tuple"),none,(.seq #[] 0),#[]⟩)::((nat_lit 226),⟨(.type "code"),none,(.fields (List.toArray ((.str "_law_next" 558)::(.str "_law_next" 559)::(.str "/claim/cut.py" 560)::(.int 218 0)::(.int 2 0)::(.int 0 0)::(.int 0 0)::(.int 3 0)::(.ref 221)::(.bool true)::(.int 181 0)::(.ref 222)::.none::(.ref 223)::(.ref 224)::(.ref 225)::(.int 564 0)::(.int 218 0)::(.str "/claim/cut.py" 565)::[]))),#[]⟩)::((nat_lit 227),⟨(.type "function"),none,(.func ⟨"_law_next","_law_next",tA39,(.stmts tB39),tS39,3,[],.none,.none,.none,(.str "law_pf0007_01" 556),none,(.ref 226),.none,0⟩),#[]⟩)::((nat_lit 228),⟨(.type "tuple"),none,(.seq #[] 0),#[]⟩)::((nat_lit 230),⟨(.type "tuple"),none,(.seq #[(.str "number" 570),(.str "tens" 571)] 0),#[]⟩)::((nat_lit 231),⟨(.type "tuple"),none,(.seq #[] 0),#[]⟩)::((nat_lit 233),⟨(.type "code"),none,(.fields (List.toArray ((.str "_law_bare" 567)::(.str "_law_bare" 568)::(.str "/claim/cut.py" 569)::(.int 222 0)::(.int 1 0)::(.int 0 0)::(.int 0 0)::(.int 3 0)::(.ref 228)::(.bool true)::(.int 181 0)::(.ref 229)::.none::(.ref 230)::(.ref 231)::(.ref 232)::(.int 572 0)::(.int 222 0)::(.str "/claim/cut.py" 573)::[]))),#[]⟩)::((nat_lit 234),⟨(.type "function"),none,(.func ⟨"_law_bare","_law_bare",tA40,(.stmts tB40),tS40,3,[],.none,.none,.none,(.str "law_pf0007_01" 556),none,(.ref 233),.none,0⟩),#[]⟩)::((nat_lit 235),⟨(.type "tuple"),none,(.seq #[] 0),#[]⟩)::((nat_lit 237),⟨(.type "tuple"),none,(.seq #[(.str "crate" 578),(.str "kind" 579),(.str "is_last" 580),(.str "form" 581),(.str "number" 582),(.str "told" 583),(.str "word" 584),(.str "written" 585),(.str "text" 586),(.str "gives" 587)] 0),#[]⟩)::((nat_lit 238),⟨(.type "tuple"),none,(.seq #[] 0),#[]⟩)::((nat_lit 240),⟨(.type "code"),none,(.fields (List.toArray ((.str "_law_field" 575)::(.str "_law_field" 576)::(.str "/claim/cut.py" 577)::(.int 227 0)::(.int 3 0)::(.int 0 0)::(.int 0 0)::(.int 3 0)::(.ref 235)::(.bool true)::(.int 181 0)::(.ref 236)::.none::(.ref 237)::(.ref 238)::(.ref 239)::(.int 588 0)::(.int 227 0)::(.str "/claim/cut.py" 589)::[]))),#[]⟩)::((nat_lit 241),⟨(.type "function"),none,(.func ⟨"_law_field","_law_field",tA41,(.stmts tB41),tS41,3,[],.none,.none,.none,(.str "law_pf0007_01" 556),none,(.ref 240),.none,0⟩),#[]⟩)::((nat_lit 242),⟨(.type "tuple"),none,(.seq #[] 0),#[]⟩)::((nat_lit 244),⟨(.type "tuple"),none,(.seq #[(.str "world" 594),(.str "kinds" 595),(.str "found" 596),(.str "kind" 597),(.str "wrong" 598)] 0),#[]⟩)::((nat_lit 245),⟨(.type "tuple"),none,(.seq #[] 0),#[]⟩)::((nat_lit 247),⟨(.type "code"),none,(.fields (List.toArray ((.str "_law_read" 591)::(.str "_law_read" 592)::(.str "/claim/cut.py" 593)::(.int 236 0)::(.int 2 0)::(.int 0 0)::(.int 0 0)::(.int 3 0)::(.ref 242)::(.bool true)::(.int 181 0)::(.ref 243)::.none::(.ref 244)::(.ref 245)::(.ref 246)::(.int 599 0)::(.int 236 0)::(.str "/claim/cut.py" 600)::[]))),#[]⟩)::((nat_lit 248),⟨(.type "function"),none,(.func ⟨"_law_read","_law_read",tA42,(.stmts tB42),tS42,3,[],.none,.none,.none,(.str "law_pf0007_01" 556),none,(.ref 247),.none,0⟩),#[]⟩)::((nat_lit 249),⟨(.type "tuple"),none,(.seq #[] 0),#[]⟩)::((nat_lit 252),⟨(.type "code"),none,(.fields (List.toArray ((.str "law" 602)::(.str "law" 603)::(.str "/claim/cut.py" 604)::(.int 244 0)::(.int 1 0)::(.int 0 0)::(.int 0 0)::(.int 3 0)::(.ref 249)::(.bool true)::(.int 181 0)::(.ref 250)::.none::.none::.none::(.ref 251)::(.int 605 0)::(.int 244 0)::(.str "/claim/cut.py" 606)::[]))),#[]⟩)::((nat_lit 253),⟨(.type "function"),none,(.func ⟨"law","law",tA43,(.stmts tB43),tS43,3,[],.none,.none,.none,(.str "law_pf0007_01" 556),none,(.ref 252),.none,0⟩),#[]⟩)::[]
noncomputable def envG (s : T8) : Env := { scope := (prog s).main.scope, locals := mainNs, globals := mainNs, cells := [], code := .ref 13, frame := some 14 }
noncomputable def bG (s : T8) : List Stmt := behindTheImports (prog s)
noncomputable def cG (s : T8) : Code := .body (bG s) (envG s)
noncomputable def lawG (s : T8) : OpenLaw := { prog := prog s, name := a178 s, about := [a73 s], foot := 5, most := some 63, bound := none, writes := false }
@[reducible] noncomputable def looseG (s : T8) : List PySem.Str := [a16 s]
@[reducible] noncomputable def rW : RowW := PySem.Challenge.rw_pf0007_01.row.toRowW
@[reducible] noncomputable def XtG (q : Program) (s : Shared) : Bool := xlAt q [] s && recOk (RowW.records rW) s
noncomputable def LOq (p q : Program) (l : List PySem.Str) (K : Params → Frag) : Prop := ∀ e : (∀ P, asK = (K P).map (·.1)), LeftO p q l (XtG q) (Hook.obs (kmHook K asK e [243, 250])) (Hook.val (kmHook K asK e [243, 250])) 3490 true
theorem law_eq : PySem.Challenge.rw_pf0007_01 = lawG s0 := by kernel_rfl
theorem prog_eq : PySem.Challenge.rw_pf0007_01.row.toRowW.1 = prog s0 := by kernel_rfl
theorem view_eq : view = viewG s0 := rfl
theorem K_eq : K = KG s0 := by kernel_rfl
end MineH
end
section
namespace MineH
@[reducible] noncomputable def B0 : List Frame := [topFrame ⟨0, 0, 0, 0⟩]
@[reducible] noncomputable def ann0 : Option Value := some (.ref 6)
@[reducible] noncomputable def p1 : Program := prog s1
@[reducible] noncomputable def sB (w : World) (os : OsState) : Shared := ⟨boot_heap w.params, ⟨[]⟩, boot_drawn, boot_toks, os⟩
@[reducible] noncomputable def sE (w : World) (os : OsState) : Shared := ⟨heap300 s1 w.params, ⟨[]⟩, {}, nat_lit 608, os⟩
theorem r_pre (w : World) : (fun os => topGo treeTable p1 w (nat_lit 11) ann0 (nat_lit 12) (sB w os) (topStub p1)) = fun os => some ((⟨heap46 s1 w.params, ⟨[]⟩, {}, nat_lit 187, os⟩ : Shared), (⟨denote treeTable (cG s1), cG s1, ⟨0, 0, 0, 0⟩, B0⟩ : Thread)) := by
  rewrite [PySem.W.Fast.te15667345088766844465, PySem.W.Fast.te11892475500146522536, PySem.W.Fast.te14364793385576792824]; kernel_rfl
theorem r_block (w : World) : (fun os => segRun treeTable p1 w (nat_lit 11) ann0 (nat_lit 1) (nat_lit 1) ⟨heap46 s1 w.params, ⟨[]⟩, {}, nat_lit 187, os⟩ (blockOf (bG s1) (envG s1) (cG s1) ⟨0, 0, 0, 0⟩ B0)) = fun os => some (Flow.next, (⟨tree47 s1 w.params, nat_lit 15, {}, ⟨[]⟩, {}, nat_lit 187, os⟩ : SharedT).abs, cG s1, (⟨0, 0, 0, 0⟩ : Pos)) := by
  rewrite [PySem.W.Fast.te14374325043358763698, PySem.W.Fast.te14364793385576792824]; kernel_rfl
theorem r_0 (w : World) : (fun os => segRunT treeTable p1 w (nat_lit 11) ann0 (nat_lit 1) (nat_lit 369) (⟨tree47 s1 w.params, nat_lit 15, {}, ⟨[]⟩, {}, nat_lit 187, os⟩ : SharedT) (piecesOf (sts49 s1) (envG s1) (cG s1) ⟨0, 0, 0, 0⟩ B0)) = fun os => some (Flow.next, (⟨tree95 s1 w.params, nat_lit 59, {}, ⟨[]⟩, {}, nat_lit 254, os⟩ : SharedT), cG s1, (⟨19, 0, 28, 16⟩ : Pos)) := by
  rewrite [PySem.W.Fast.te10110043849684766642, PySem.W.Fast.te14364793385576792824]; kernel_rfl
theorem r_1 (w : World) : (fun os => segRunT treeTable p1 w (nat_lit 11) ann0 (nat_lit 1) (nat_lit 386) (⟨tree95 s1 w.params, nat_lit 59, {}, ⟨[]⟩, {}, nat_lit 254, os⟩ : SharedT) (piecesOf (sts96 s1) (envG s1) (cG s1) ⟨19, 0, 28, 16⟩ B0)) = fun os => some (Flow.next, (⟨tree146 s1 w.params, nat_lit 107, {}, ⟨[]⟩, {}, nat_lit 332, os⟩ : SharedT), cG s1, (⟨66, 0, 75, 16⟩ : Pos)) := by
  rewrite [PySem.W.Fast.te10110043849684766642, PySem.W.Fast.te14364793385576792824]; kernel_rfl
theorem r_2 (w : World) : (fun os => segRunT treeTable p1 w (nat_lit 11) ann0 (nat_lit 1) (nat_lit 385) (⟨tree146 s1 w.params, nat_lit 107, {}, ⟨[]⟩, {}, nat_lit 332, os⟩ : SharedT) (piecesOf (sts147 s1) (envG s1) (cG s1) ⟨66, 0, 75, 16⟩ B0)) = fun os => some (Flow.next, (⟨tree219 s1 w.params, nat_lit 178, {}, ⟨[]⟩, {}, nat_lit 452, os⟩ : SharedT), cG s1, (⟨147, 0, 157, 47⟩ : Pos)) := by
  rewrite [PySem.W.Fast.te10110043849684766642, PySem.W.Fast.te14364793385576792824]; kernel_rfl
theorem r_3 (w : World) : (fun os => segRunT treeTable p1 w (nat_lit 11) ann0 (nat_lit 1) (nat_lit 388) (⟨tree219 s1 w.params, nat_lit 178, {}, ⟨[]⟩, {}, nat_lit 452, os⟩ : SharedT) (piecesOf (sts220 s1) (envG s1) (cG s1) ⟨147, 0, 157, 47⟩ B0)) = fun os => some (Flow.next, (⟨tree264 s1 w.params, nat_lit 221, {}, ⟨[]⟩, {}, nat_lit 558, os⟩ : SharedT), cG s1, (⟨217, 0, 217, 8⟩ : Pos)) := by
  rewrite [PySem.W.Fast.te10110043849684766642, PySem.W.Fast.te14364793385576792824]; kernel_rfl
theorem r_4 (w : World) : (fun os => segRunT treeTable p1 w (nat_lit 11) ann0 (nat_lit 1) (nat_lit 159) (⟨tree264 s1 w.params, nat_lit 221, {}, ⟨[]⟩, {}, nat_lit 558, os⟩ : SharedT) (piecesOf (sts265 s1) (envG s1) (cG s1) ⟨217, 0, 217, 8⟩ B0)) = fun os => some (Flow.next, (⟨tree299 s1 w.params, nat_lit 254, {}, ⟨[]⟩, {}, nat_lit 608, os⟩ : SharedT), cG s1, (⟨244, 0, 262, 15⟩ : Pos)) := by
  rewrite [PySem.W.Fast.te10110043849684766642, PySem.W.Fast.te14364793385576792824]; kernel_rfl
theorem r_fin (w : World) : (fun os => topRun treeTable p1 w (nat_lit 11) ann0 (nat_lit 2) (⟨tree299 s1 w.params, nat_lit 254, {}, ⟨[]⟩, {}, nat_lit 608, os⟩ : SharedT).abs ⟨doneF .next, cG s1, ⟨244, 0, 262, 15⟩, B0⟩) = fun os => some (sE w os) := by
  rewrite [PySem.W.Fast.te14082659384304107361, PySem.W.Fast.te14364793385576792824]; kernel_rfl
theorem b_eq : bG s1 = sts49 s1 ++ (sts96 s1 ++ (sts147 s1 ++ (sts220 s1 ++ (sts265 s1 ++ [])))) := by kernel_rfl
theorem r_all (w : World) (os : OsState) : topRun treeTable p1 w (nat_lit 11) ann0 (nat_lit 12 + (nat_lit 1 + (nat_lit 369 + (nat_lit 386 + (nat_lit 385 + (nat_lit 388 + (nat_lit 159 + nat_lit 2))))))) (sB w os) (topStub p1) = some (sE w os) := by
  refine go_top (congrFun (r_pre w) os) ?_
  refine piece_block (b := bG s1) (env := envG s1) (c := cG s1) (q := ⟨0, 0, 0, 0⟩) (congrFun (r_block w) os) ?_
  rw [b_eq]
  refine piece_app (segRun_of (congrFun (r_0 w) os)) ?_
  refine piece_app (segRun_of (congrFun (r_1 w) os)) ?_
  refine piece_app (segRun_of (congrFun (r_2 w) os)) ?_
  refine piece_app (segRun_of (congrFun (r_3 w) os)) ?_
  refine piece_app (segRun_of (congrFun (r_4 w) os)) ?_
  exact congrFun (r_fin w) os
theorem o_e : opening p1 = plainProg p1.main.scope.names := by kernel_rfl
theorem o_f (s : Shared) : fenceModules? p1 s = some s := by kernel_rfl
theorem ann_e : Str.ofString "__annotations__" = ⟨⟨[nat_lit 95,nat_lit 95,nat_lit 97,nat_lit 110,nat_lit 110,nat_lit 111,nat_lit 116,nat_lit 97,nat_lit 116,nat_lit 105,nat_lit 111,nat_lit 110,nat_lit 115,nat_lit 95,nat_lit 95]⟩⟩ := (congrFun Str.ofString_eq_byList _).trans (by kernel_rfl)
theorem r_size (w : World) : ((boot_heap w.params).isNs mainGlobals && (⟨[]⟩ : Array GenState).size == 0, (boot_heap w.params).objs.size, (boot_heap w.params).nsMap mainGlobals (Str.ofString "__annotations__")) = (true, nat_lit 11, ann0) := by
  rewrite [ann_e, PySem.W.Fast.te8920871248978507458]; kernel_rfl
theorem l_a (w : World) : (fun os => staticsOk (importedModules p1.main.body) (boot_heap w.params) (heap300 s1 w.params) && namesBound p1 (heap300 s1 w.params) && gensDone (sE w os) && laidKept (boot_heap w.params) (heap300 s1 w.params)) = fun os => true := by
  rewrite [PySem.W.Fast.te5923862056798008813]; kernel_rfl
theorem l_1 (w : World) : (fun os => seen ((recsOf (viewG s1)).map (·.name)) (ownsOf (viewG s1)) [] { sE w os with gens := #[] }) = fun os => expectedOf (viewG s1) := by
  rewrite [PySem.W.Fast.te5160383126252970620, PySem.W.R.mapR_eq, PySem.W.Fast.te3399658132070893891, PySem.W.Fast.te5991557255702980513]; kernel_rfl
theorem l_2 (w : World) : (fun os => (sE w os).heap.bltView) = fun os => bltViewBooted := by
  kernel_rfl
theorem l_3 (w : World) : (fun os => (sE w os).heap.keysOk (looseW (viewG s1) (looseG s1)) ((recsOf (viewG s1)).map (·.name)) ((litsOf (viewG s1)).map (·.1)) ((clssOf (viewG s1) (looseW (viewG s1) (looseG s1))).map (·.name)) && (sE w os).heap.accountedOkI (importedModules p1.main.body) && (sE w os).heap.isNs mainGlobals && (sE w os).heap.isNs builtinsNs && tablesOk (viewG s1) (sE w os).heap && XtG (viewG s1) (sE w os) && (if true then (sE w os).gens.size == 0 else !leftWithCleanup (sE w os).gens)) = fun os => true := by
  rewrite [PySem.W.Fast.te10880121769531294198, PySem.W.Fast.te821141287760084731, PySem.W.R.mapR_eq, PySem.W.Fast.te3399658132070893891, PySem.W.Fast.te7409074990110511671, PySem.W.Fast.te13664370479719496447, PySem.W.Fast.te14722251495701143533, PySem.W.Fast.te5923862056798008813, PySem.W.Fast.te10994771534591457954]; kernel_rfl
theorem l_4 (w : World) : (fun os => tabsOk (viewG s1) (sE w os)) = fun os => true := by
  rewrite [PySem.W.Fast.te479339242167458305]; kernel_rfl
theorem l_5 (w : World) : (fun os => pinSeenD (viewG s1) (drecsOf (viewG s1)) (sE w os)) = fun os => pinGoodD (drecsOf (viewG s1)) := by
  rewrite [PySem.W.Fast.te16090120013241838585, PySem.W.Fast.te3247288618530077131]; kernel_rfl
theorem l_6 (w : World) : (fun os => plainSeenE (viewG s1) (looseW (viewG s1) (looseG s1)) (sE w os)) = fun os => plainGoodE (viewG s1) (looseW (viewG s1) (looseG s1)) := by
  rewrite [PySem.W.Fast.te2386780881361962483, PySem.W.Fast.te821141287760084731]; kernel_rfl
theorem l_7 (w : World) : (fun os => plainSeenD (viewG s1) (looseG s1) (sE w os)) = fun os => plainGoodD (viewG s1) (looseG s1) := by
  rewrite [PySem.W.Fast.te11698064438423848299]; kernel_rfl
theorem l_8 (w : World) : (fun os => wideSeen (viewG s1) (sE w os)) = fun os => wideGood (viewG s1) := by
  rewrite [PySem.W.Fast.te7317090234206586261]; kernel_rfl
theorem l_9 (w : World) : (fun os => clsSeenW (viewG s1) (looseG s1) (sE w os)) = fun os => clsGoodW (viewG s1) (looseG s1) := by
  rewrite [PySem.W.Fast.te7369524293546568484]; kernel_rfl
theorem l_k (w : World) : (fun os => (asK.map (sE w os).heap.get?, ([243, 250] : List Addr).map (sE w os).heap.get?)) = fun os => ((KG s1 w.params).map fun p => some p.2, ([243, 250] : List Addr).map fun _ => some (tabObj #[])) := by
  kernel_rfl
theorem LO1 : LOq (prog s1) (viewG s1) (looseG s1) (KG s1) := fun e => LeftO.of_pieces (H₀ := boot_heap) (H₁ := heap300 s1) (gs₀ := ⟨[]⟩) (gs₁ := ⟨[]⟩) (d₀ := boot_drawn) (d₁ := {}) (k₀ := boot_toks) (k₁ := nat_lit 608) (boot_open o_e rfl o_f) r_size r_all rfl (fun w => by
  funext os
  have h (f g : OsState → Bool) (h : f = g) : f os = g os := by rw [h]
  exact looks_pair (congrFun (l_a w) os) (looks_pair (looks_pair (congrFun (l_1 w) os) (looks_pair (congrFun (l_2 w) os) (looks_pair (congrFun (l_3 w) os) (looks_pair (congrFun (l_4 w) os) (looks_pair (congrFun (l_5 w) os) (looks_pair (congrFun (l_6 w) os) (looks_pair (congrFun (l_7 w) os) (looks_pair (congrFun (l_8 w) os) (congrFun (l_9 w) os))))))))) (congrFun (l_k w) os)))
theorem LO0 : LOq (prog s0) (viewG s0) (looseG s0) (KG s0) := s01 ▸ LO1
theorem LOr : LOq PySem.Challenge.rw_pf0007_01.row.toRowW.1 view [Str.ofString "BasicError"] K := by
  rw [prog_eq, view_eq, K_eq]; exact LO0
theorem said1 : (lawG s1).wellSaid = true := by k_qdec
theorem said0 : PySem.Challenge.rw_pf0007_01.wellSaid = true := by
  rw [law_eq, s01]; exact said1
end MineH
end
section
namespace MineH
theorem eK : ∀ P, asK = (K P).map (·.1) := fun P => by kernel_rfl
theorem hd (walk : WalkO view [Str.ofString "BasicError"] (XL view []) (kmHook K ((nat_lit 2)::(nat_lit 3)::(nat_lit 15)::(nat_lit 17)::(nat_lit 18)::(nat_lit 20)::(nat_lit 21)::(nat_lit 22)::(nat_lit 25)::(nat_lit 30)::(nat_lit 31)::(nat_lit 32)::(nat_lit 34)::(nat_lit 35)::(nat_lit 37)::(nat_lit 38)::(nat_lit 39)::(nat_lit 40)::(nat_lit 41)::(nat_lit 42)::(nat_lit 45)::(nat_lit 47)::(nat_lit 48)::(nat_lit 50)::(nat_lit 51)::(nat_lit 52)::(nat_lit 54)::(nat_lit 55)::(nat_lit 57)::(nat_lit 58)::(nat_lit 59)::(nat_lit 61)::(nat_lit 62)::(nat_lit 64)::(nat_lit 65)::(nat_lit 66)::(nat_lit 73)::(nat_lit 74)::(nat_lit 75)::(nat_lit 76)::(nat_lit 79)::(nat_lit 81)::(nat_lit 82)::(nat_lit 84)::(nat_lit 85)::(nat_lit 86)::(nat_lit 88)::(nat_lit 89)::(nat_lit 91)::(nat_lit 92)::(nat_lit 93)::(nat_lit 95)::(nat_lit 96)::(nat_lit 98)::(nat_lit 99)::(nat_lit 100)::(nat_lit 102)::(nat_lit 103)::(nat_lit 105)::(nat_lit 106)::(nat_lit 107)::(nat_lit 109)::(nat_lit 110)::(nat_lit 112)::(nat_lit 113)::(nat_lit 114)::(nat_lit 116)::(nat_lit 117)::(nat_lit 119)::(nat_lit 120)::(nat_lit 121)::(nat_lit 123)::(nat_lit 124)::(nat_lit 126)::(nat_lit 127)::(nat_lit 128)::(nat_lit 130)::(nat_lit 131)::(nat_lit 133)::(nat_lit 134)::(nat_lit 135)::(nat_lit 137)::(nat_lit 138)::(nat_lit 140)::(nat_lit 141)::(nat_lit 142)::(nat_lit 144)::(nat_lit 145)::(nat_lit 147)::(nat_lit 148)::(nat_lit 149)::(nat_lit 151)::(nat_lit 152)::(nat_lit 154)::(nat_lit 155)::(nat_lit 156)::(nat_lit 158)::(nat_lit 159)::(nat_lit 161)::(nat_lit 162)::(nat_lit 163)::(nat_lit 164)::(nat_lit 166)::(nat_lit 167)::(nat_lit 169)::(nat_lit 170)::(nat_lit 171)::(nat_lit 173)::(nat_lit 174)::(nat_lit 176)::(nat_lit 177)::(nat_lit 178)::(nat_lit 180)::(nat_lit 181)::(nat_lit 183)::(nat_lit 184)::(nat_lit 185)::(nat_lit 187)::(nat_lit 188)::(nat_lit 190)::(nat_lit 191)::(nat_lit 192)::(nat_lit 194)::(nat_lit 195)::(nat_lit 197)::(nat_lit 198)::(nat_lit 206)::(nat_lit 207)::(nat_lit 209)::(nat_lit 210)::(nat_lit 212)::(nat_lit 213)::(nat_lit 214)::(nat_lit 215)::(nat_lit 216)::(nat_lit 217)::(nat_lit 218)::(nat_lit 221)::(nat_lit 223)::(nat_lit 224)::(nat_lit 226)::(nat_lit 227)::(nat_lit 228)::(nat_lit 230)::(nat_lit 231)::(nat_lit 233)::(nat_lit 234)::(nat_lit 235)::(nat_lit 237)::(nat_lit 238)::(nat_lit 240)::(nat_lit 241)::(nat_lit 242)::(nat_lit 244)::(nat_lit 245)::(nat_lit 247)::(nat_lit 248)::(nat_lit 249)::(nat_lit 252)::(nat_lit 253)::[]) eK [243, 250]).says PySem.Challenge.rw_pf0007_01.row.toRowW (⟨"law",fdA (st0 43),fdB (st0 43),fdS (st0 43),fdP (st0 43)⟩) [] (fun f vs => call f vs)) : PySem.Challenge.rw_pf0007_01.Holds :=
  holds_law said0 fun said => holds_open (q := view) (loose := [Str.ofString "BasicError"]) (Xt := XtG view) (XP := XL view []) (Yf := Hook.obs (kmHook K asK eK [243, 250])) (Ya := Hook.val (kmHook K asK eK [243, 250])) (YP := Hook.says (kmHook K asK eK [243, 250])) (N := 3490) (LOr eK)
    (Hook.of (kmHook K asK eK [243, 250])) (Hook.keeps (kmHook K asK eK [243, 250])) (fun s e => xl_of s (Bool.and_eq_true_iff.mp e).1) XL.keeps (by kernel_rfl) (by kernel_rfl) (by kernel_rfl) (fun s e => recFacts_of (Bool.and_eq_true_iff.mp e).2) (by rfl) said (by decide +kernel) ⟨rfl, rfl, rfl, rfl, rfl, by decide +kernel⟩
    ⟨[.list []], by decide +kernel, by decide +kernel⟩ walk
end MineH
end
section
namespace Mine
open PySem.StrLaws PySem.Builtin PySem.Builtin.Str
@[reducible] noncomputable def Lx (x : PySem.Str) : List Nat := x.cps.toList
noncomputable def st (l : List Nat) : PySem.Str := ⟨l.toArray⟩
theorem Lx_st (l : List Nat) : Lx (st l) = l := rfl
theorem st_Lx (x : PySem.Str) : st (Lx x) = x := rfl
theorem len_st (l : List Nat) : (st l).length = l.length := by simp [st, PySem.Str.length]
theorem len_Lx (x : PySem.Str) : (Lx x).length = x.length := by simp [Lx, PySem.Str.length]
theorem st_inj {a b : List Nat} (h : st a = st b) : a = b := congrArg Lx h
theorem Lx_inj {x y : PySem.Str} (h : Lx x = Lx y) : x = y := by rw [← st_Lx x, ← st_Lx y, h]
theorem st_app (a b : List Nat) : st a ++ st b = st (a ++ b) := Lx_inj (by show ((st a).cps ++ (st b).cps).toList = _; simp [st])
theorem item_eq {x : PySem.Str} {j : Int} (h0 : 0 ≤ j) (h : j < x.length) : Txt.item x j = st [(Lx x).getD j.toNat 0] := by
  have h1 : ¬ (j < 0) := by omega
  have h2 : (decide (0 ≤ j) && decide (j < (x.length : Int))) = true := by simp [h0, h]
  have h3 : j.toNat < x.cps.size := by have : x.length = x.cps.size := rfl; omega
  unfold Txt.item Txt.charAt seqIndex?
  simp only [h1, if_false, h2, if_true, st, Option.bind_some]
  congr 2
  simp [Lx, h3]
theorem slice_len (x : PySem.Str) (a b : Nat) (hb : b ≤ x.length) : (strSliceIndices (some (a : Int)) (some (b : Int)) 1 x.length).filterMap (x.cps[·]?) = (x.cps.toList.drop a).take (b - a) := by
  by_cases hab : a ≤ b
  · exact sliced_plain x hab hb
  · have e1 : strSliceIndices (some (a : Int)) (some (b : Int)) 1 x.length = [] := by
      have h1 : ¬ ((a : Int) < 0) := by omega
      have h2 : ¬ ((b : Int) < 0) := by omega
      simp only [strSliceIndices, sliceRange, h1, h2, if_false, show ((1 : Int) > 0) = True from by simp, if_true]
      rw [if_neg (by omega)]
      rfl
    rw [e1, show b - a = 0 by omega, List.take_zero]; rfl
theorem strSlice_clip (a b : Nat) (n : Nat) : strSliceIndices (some (a : Int)) (some (b : Int)) 1 n = strSliceIndices (some (a : Int)) (some ((min b n : Nat) : Int)) 1 n := by
  have h1 : ¬ ((a : Int) < 0) := by omega
  have h2 : ¬ ((b : Int) < 0) := by omega
  have h3 : ¬ (((min b n : Nat) : Int) < 0) := by omega
  simp only [strSliceIndices, h1, h2, h3, if_false, show ((1 : Int) > 0) = True from by simp, if_true]
  congr 1
  omega
theorem slice_core {x : PySem.Str} {l u : Option Int} {a b : Nat} (e : strSliceIndices l u 1 x.length = strSliceIndices (some (a : Int)) (some (b : Int)) 1 x.length) (hb : b ≤ x.length) : Txt.slice x l u = st (((Lx x).drop a).take (b - a)) := by
  have hl : (Lx x).length = x.length := len_Lx x
  unfold Txt.slice
  rw [e]
  split
  · rename_i hq
    have hq : (strSliceIndices (some (a : Int)) (some (b : Int)) 1 x.length).length = x.length := by simpa using hq
    by_cases hab : a ≤ b
    · rw [strSliceIndices_plain hab hb, List.length_map, List.length_range] at hq
      have h1 : a = 0 := by omega
      have h2 : b = x.length := by omega
      subst h1 h2
      rw [List.drop_zero, Nat.sub_zero, List.take_of_length_le (by omega)]
      rfl
    · have q := slice_len x a b hb
      have q2 := congrArg List.length q
      have e1 : b - a = 0 := by omega
      have e0 : strSliceIndices (some (a : Int)) (some (b : Int)) 1 x.length = [] := by
        have h1 : ¬ ((a : Int) < 0) := by omega
        have h2 : ¬ ((b : Int) < 0) := by omega
        simp only [strSliceIndices, sliceRange, h1, h2, if_false, show ((1 : Int) > 0) = True from by simp, if_true]
        rw [if_neg (by omega)]
        rfl
      rw [e0] at hq
      have hx : x.length = 0 := hq.symm
      refine Lx_inj ?_
      rw [Lx_st, e1, List.take_zero]
      exact List.eq_nil_of_length_eq_zero (by omega)
  · rw [slice_len x a b hb]; rfl
theorem slice_ss_eq {x : PySem.Str} {i j : Int} (h0 : 0 ≤ i) (h1 : 0 ≤ j) : Txt.slice x (some i) (some j) = st (((Lx x).drop i.toNat).take (j.toNat - i.toNat)) := by
  obtain ⟨a, rfl⟩ := Int.eq_ofNat_of_zero_le h0
  obtain ⟨b, rfl⟩ := Int.eq_ofNat_of_zero_le h1
  rw [slice_core (strSlice_clip a b x.length) (Nat.min_le_right _ _)]
  have hl : (Lx x).length = x.length := len_Lx x
  simp only [Int.toNat_natCast]
  by_cases hb : b ≤ x.length
  · rw [Nat.min_eq_left hb]
  · rw [Nat.min_eq_right (by omega)]
    congr 1
    rw [List.take_of_length_le (by rw [List.length_drop]; omega), List.take_of_length_le (by rw [List.length_drop]; omega)]
theorem slice_sn_eq {x : PySem.Str} {i : Int} (h0 : 0 ≤ i) : Txt.slice x (some i) none = st ((Lx x).drop i.toNat) := by
  obtain ⟨a, rfl⟩ := Int.eq_ofNat_of_zero_le h0
  have e : strSliceIndices (some (a : Int)) none 1 x.length = strSliceIndices (some (a : Int)) (some (x.length : Int)) 1 x.length := by
    have h1 : ¬ ((a : Int) < 0) := by omega
    have h2 : ¬ ((x.length : Int) < 0) := by omega
    simp only [strSliceIndices, h1, h2, if_false, show ((1 : Int) > 0) = True from by simp, if_true]
    congr 1
    omega
  rw [slice_core e (Nat.le_refl _)]
  have hl : (Lx x).length = x.length := len_Lx x
  simp only [Int.toNat_natCast]
  rw [List.take_of_length_le (by rw [List.length_drop]; omega)]
theorem slice_ns_eq {x : PySem.Str} {j : Int} (h1 : 0 ≤ j) : Txt.slice x none (some j) = st ((Lx x).take j.toNat) := by
  obtain ⟨b, rfl⟩ := Int.eq_ofNat_of_zero_le h1
  have e : strSliceIndices none (some (b : Int)) 1 x.length = strSliceIndices (some ((0 : Nat) : Int)) (some (b : Int)) 1 x.length := by
    have h2 : ¬ ((b : Int) < 0) := by omega
    simp only [strSliceIndices, h2, if_false, show ((1 : Int) > 0) = True from by simp, if_true]
    congr 1
  rw [slice_core (e.trans (strSlice_clip 0 b x.length)) (Nat.min_le_right _ _)]
  have hl : (Lx x).length = x.length := len_Lx x
  simp only [Int.toNat_natCast, List.drop_zero, Nat.sub_zero]
  by_cases hb : b ≤ x.length
  · rw [Nat.min_eq_left hb]
  · rw [Nat.min_eq_right (by omega), List.take_of_length_le (by omega), List.take_of_length_le (by omega)]
noncomputable def findC (l : List Nat) (c i : Nat) : Option Nat := ((l.drop i).findIdx? (· == c)).map (· + i)
theorem findC_some {l : List Nat} {c i k : Nat} (h : findC l c i = some k) : i ≤ k ∧ k < l.length ∧ l[k]? = some c ∧ ∀ j, i ≤ j → j < k → l[j]? ≠ some c := by
  unfold findC at h
  obtain ⟨a, ha, rfl⟩ := Option.map_eq_some_iff.mp h
  obtain ⟨h1, h2, h3⟩ := List.findIdx?_eq_some_iff_getElem.mp ha
  rw [List.length_drop] at h1
  refine ⟨Nat.le_add_left _ _, by omega, ?_, fun j hj hk => ?_⟩
  · have : (List.drop i l)[a]? = some c := by rw [List.getElem?_eq_getElem (by rw [List.length_drop]; exact h1)]; exact congrArg some (beq_iff_eq.mp h2)
    rwa [List.getElem?_drop, Nat.add_comm] at this
  · intro e
    have := h3 (j - i) (by omega)
    have q : (List.drop i l)[j - i]? = some c := by rw [List.getElem?_drop]; rwa [show i + (j - i) = j by omega]
    rw [List.getElem?_eq_getElem (by rw [List.length_drop]; omega)] at q
    rw [Option.some.inj q] at this
    simp at this
theorem findC_none {l : List Nat} {c i : Nat} (h : findC l c i = none) : ∀ j, i ≤ j → l[j]? ≠ some c := by
  unfold findC at h
  rw [Option.map_eq_none_iff, List.findIdx?_eq_none_iff] at h
  intro j hj e
  have : c ∈ List.drop i l := List.mem_of_getElem? (i := j - i) (by rw [List.getElem?_drop]; rwa [show i + (j - i) = j by omega])
  have := h c this
  simp at this
theorem findC_eq_some {l : List Nat} {c i k : Nat} (hi : i ≤ k) (hk : l[k]? = some c) (hn : ∀ j, i ≤ j → j < k → l[j]? ≠ some c) : findC l c i = some k := by
  cases h : findC l c i with
  | none => exact absurd hk (findC_none h k hi)
  | some q =>
    obtain ⟨h1, _, h3, h4⟩ := findC_some h
    rcases Nat.lt_trichotomy q k with hq | hq | hq
    · exact absurd h3 (hn q h1 hq)
    · rw [hq]
    · exact absurd hk (h4 k hi hq)
theorem findC_eq_none {l : List Nat} {c i : Nat} (hn : ∀ j, i ≤ j → l[j]? ≠ some c) : findC l c i = none := by
  cases h : findC l c i with
  | none => rfl
  | some q => exact absurd (findC_some h).2.2.1 (hn q (findC_some h).1)
theorem find3_eq {x : PySem.Str} {c : Nat} {j : Int} (h0 : 0 ≤ j) : Txt.find3 x (st [c]) j = match findC (Lx x) c j.toNat with | some k => (k : Int) | none => -1 := by
  have hf : fromIndex x.length j = j.toNat := by unfold fromIndex; rw [if_neg (by omega)]; omega
  unfold Txt.find3
  rw [hf, occ_eq]
  have at_iff : ∀ i, At x (st [c]) x.length i ↔ (Lx x)[i]? = some c := fun i => by
    have := subAt_one x c i
    exact this
  rcases occ_first x (st [c]) x.length 1 (Nat.le_refl _) (List.range' j.toNat (x.length + 1 - j.toNat)) j.toNat (fun i hi => (List.mem_range'_1.mp hi).1) with ⟨e, hn⟩ | ⟨pre, a, post, e, e1, ha, hn⟩
  · have q : findC (Lx x) c j.toNat = none := findC_eq_none fun i hi he => by
      have hlt : i < x.length := by
        have := (List.getElem?_eq_some_iff.mp he).1
        rwa [len_Lx] at this
      exact hn i (List.mem_range'_1.mpr ⟨hi, by omega⟩) ((at_iff i).mpr he)
    rw [q, e]
  · have ham : a ∈ List.range' j.toNat (x.length + 1 - j.toNat) := by rw [e]; simp
    have hpre : ∀ i, j.toNat ≤ i → i < a → i ∈ pre := by
      intro i hi hia
      have hmem : i ∈ List.range' j.toNat (x.length + 1 - j.toNat) := List.mem_range'_1.mpr ⟨hi, by have := (List.mem_range'_1.mp ham).2; omega⟩
      rw [e] at hmem
      rcases List.mem_append.mp hmem with h | h
      · exact h
      · have hs : (List.range' j.toNat (x.length + 1 - j.toNat)).Pairwise (· < ·) := List.pairwise_lt_range'
        rw [e, List.pairwise_append] at hs
        rcases List.mem_cons.mp h with h | h
        · omega
        · have := (List.pairwise_cons.mp hs.2.1).1 i h; omega
    have q : findC (Lx x) c j.toNat = some a := findC_eq_some (List.mem_range'_1.mp ham).1 ((at_iff a).mp ha) fun i hi hia he => hn i (hpre i hi hia) ((at_iff i).mpr he)
    rw [q]
    generalize (forIn (List.range' j.toNat (x.length + 1 - j.toNat)) ((#[] : Array Nat), j.toNat) (occBody x (st [c]) x.length 1)).run.fst = arr at e1
    have h1 : arr.toList[0]? = some a := by simpa using e1
    cases hL : arr.toList with
    | nil => rw [hL] at h1; cases h1
    | cons b t => rw [hL] at h1; simp at h1; rw [h1]
end Mine
namespace Mine
open PySem.StrLaws PySem.Builtin PySem.Builtin.Str
noncomputable def isBlank (c : Nat) : Bool := c == 32 || c == 9
noncomputable def blankEnd (x : PySem.Str) (i : Nat) : Nat := i + (((Lx x).drop i).takeWhile isBlank).length
theorem item_get {x : PySem.Str} {j : Int} (h0 : 0 ≤ j) (h : j < x.length) : ∃ c, (Lx x)[j.toNat]? = some c ∧ Txt.item x j = st [c] := by
  have hl : (Lx x).length = x.length := len_Lx x
  refine ⟨(Lx x)[j.toNat]'(by omega), List.getElem?_eq_getElem _, ?_⟩
  rw [item_eq h0 h, List.getD_eq_getElem?_getD, List.getElem?_eq_getElem (by omega)]
  rfl
theorem in_one (y : PySem.Str) (c : Nat) : (occurrences y (st [c]) 0 y.length 1).isEmpty = !decide (c ∈ Lx y) := by
  have := found_one y c
  rw [← this, Bool.not_not]
  rfl
theorem blank_at (c : Nat) : decide (c ∈ Lx (PySem.Str.ofString " \t")) = isBlank c := by
  have e : Lx (PySem.Str.ofString " \t") = [32, 9] := by decide +kernel
  rw [e]
  unfold isBlank
  by_cases h1 : c = 32 <;> by_cases h2 : c = 9 <;> simp [h1, h2]
theorem blank_step (x : PySem.Str) (i : Nat) : blankEnd x i = match (Lx x)[i]? with | none => i | some c => if isBlank c then blankEnd x (i + 1) else i := by
  unfold blankEnd
  cases h : (Lx x)[i]? with
  | none =>
    rw [List.drop_eq_nil_of_le (List.getElem?_eq_none_iff.mp h)]
    rfl
  | some c =>
    obtain ⟨hl, e⟩ := List.getElem?_eq_some_iff.mp h
    rw [List.drop_eq_getElem_cons hl, e, List.takeWhile_cons]
    cases hb : isBlank c with
    | true => simp only [if_true, List.length_cons, hb]; omega
    | false => simp [hb]
theorem blank_go {x : PySem.Str} {j : Int} (h0 : 0 ≤ j) (h : j < x.length) (hb : (occurrences (PySem.Str.ofString " \t") (Txt.item x j) 0 (PySem.Str.ofString " \t").length 1).isEmpty = false) : blankEnd x (j + 1).toNat = blankEnd x j.toNat := by
  obtain ⟨c, h1, h2⟩ := item_get h0 h
  rw [h2, in_one, blank_at] at hb
  rw [blank_step x j.toNat, h1, show (j + 1).toNat = j.toNat + 1 by omega]
  simp only [Bool.not_eq_false'] at hb
  simp only [hb, if_true]
theorem blank_stop {x : PySem.Str} {j : Int} (h0 : 0 ≤ j) (h : j < x.length) (hb : (occurrences (PySem.Str.ofString " \t") (Txt.item x j) 0 (PySem.Str.ofString " \t").length 1).isEmpty = true) : (blankEnd x j.toNat : Int) = j := by
  obtain ⟨c, h1, h2⟩ := item_get h0 h
  rw [h2, in_one, blank_at] at hb
  rw [blank_step x j.toNat, h1]
  simp only [Bool.not_eq_true'] at hb
  simp [hb]; omega
theorem blank_end {x : PySem.Str} {j : Int} (h0 : 0 ≤ j) (h : ¬ j < x.length) : (blankEnd x j.toNat : Int) = j := by
  have hl : (Lx x).length = x.length := len_Lx x
  rw [blank_step x j.toNat, List.getElem?_eq_none (by omega)]
  simp; omega
theorem blankEnd_le {x : PySem.Str} {i : Nat} (h : i ≤ x.length) : i ≤ blankEnd x i ∧ blankEnd x i ≤ x.length := by
  have hl : (Lx x).length = x.length := len_Lx x
  unfold blankEnd
  have : (List.takeWhile isBlank ((Lx x).drop i)).length ≤ ((Lx x).drop i).length := (List.takeWhile_sublist _).length_le
  rw [List.length_drop] at this
  omega
end Mine
namespace Mine
theorem find3_lt {x y : PySem.Str} {j : Int} (hy : (Lx y).length = 1) (h0 : 0 ≤ j) : Txt.find3 x y j < x.length := by
  obtain ⟨c, hc⟩ := List.length_eq_one_iff.mp hy
  have e : y = st [c] := Lx_inj hc
  rw [e, find3_eq h0]
  cases h : findC (Lx x) c j.toNat with
  | none => simp only; omega
  | some k =>
    have := (findC_some h).2.1
    rw [len_Lx] at this
    simp only; omega
theorem find3_ge {x y : PySem.Str} {j : Int} (hy : (Lx y).length = 1) (h0 : 0 ≤ j) : Txt.find3 x y j < 0 ∨ j ≤ Txt.find3 x y j := by
  obtain ⟨c, hc⟩ := List.length_eq_one_iff.mp hy
  have e : y = st [c] := Lx_inj hc
  rw [e, find3_eq h0]
  cases h : findC (Lx x) c j.toNat with
  | none => exact .inl (by simp only; omega)
  | some k => exact .inr (by have := (findC_some h).1; simp only; omega)
theorem find_r {prog : Program} {w : World} {A : Around} {E : Value → Shared → Prop} {s : Shared} {x y : PySem.Str} {t u v : Tok} {i : Int} {Q : Value → Shared → Prop} (hy : (Lx y).length = 1) (h0 : 0 ≤ i)
    (h : Txt.find3 x y i < x.length → Q (.int (Txt.find3 x y i) s.toks) { s with toks := s.toks + 1 }) : wpAny (model prog w) A (call (Value.builtin "str.find") [Value.str x t, Value.str y u, Value.int i v]) Q E s :=
  SC.find3 (h (find3_lt hy h0))
end Mine
namespace Mine
theorem item_c {prog : Program} {w : World} {A : Around} {E : Value → Shared → Prop} {s : Shared} {value slice : PySem.Expr}
  {x : PySem.Str} {t : Tok} {Q : Value → Shared → Prop} {i : Int} {u : Tok} (h0 : 0 ≤ i) (h1 : i < x.length) (hx : x.length ≤ 1000)
  (h : ∀ c, (Lx x)[i.toNat]? = some c → Q (Value.str (st [c]) s.toks) { s with toks := s.toks + 1 })
  (hs : subscripted slice false (Value.str x t) (Value.int i u) = operate [Value.str x t, Value.int i u] (getItem (Value.str x t) (Value.int i u)) := by with_unfolding_all rfl)
  (hl : ∀ (r : Value), letTemporaryGo value (Value.str x t) r = pure () := by intro _; with_unfolding_all rfl) :
  wpAny (model prog w) A (subscriptTail value slice (Value.str x t) (Value.int i u)) Q E s := by
  obtain ⟨c, hc, e⟩ := item_get h0 h1
  refine item_str (fitsSsize_of (N := 9223372036854775808) (by omega) (by omega) (Int.le_refl _)) (by omega) h1 (fun _ => ?_) hs hl
  rw [e]
  exact h c hc
end Mine
namespace Mine
theorem item_c' {prog : Program} {w : World} {A : Around} {E : Value → Shared → Prop} {s : Shared} {value slice : PySem.Expr}
  {x : PySem.Str} {t : Tok} {Q : Value → Shared → Prop} {i : Int} {u : Tok} {c : Nat} (hc : (Lx x)[i.toNat]? = some c) (h0 : 0 ≤ i) (h1 : i < x.length) (hx : x.length ≤ 1000)
  (h : Q (Value.str (st [c]) s.toks) { s with toks := s.toks + 1 })
  (hs : subscripted slice false (Value.str x t) (Value.int i u) = operate [Value.str x t, Value.int i u] (getItem (Value.str x t) (Value.int i u)) := by with_unfolding_all rfl)
  (hl : ∀ (r : Value), letTemporaryGo value (Value.str x t) r = pure () := by intro _; with_unfolding_all rfl) :
  wpAny (model prog w) A (subscriptTail value slice (Value.str x t) (Value.int i u)) Q E s :=
  item_c h0 h1 hx (fun c' hc' => by rw [hc] at hc'; cases hc'; exact h) hs hl
end Mine
namespace Mine
theorem abs_z {prog : Program} {w : World} {A : Around} {E : Value → Shared → Prop} {s : Shared} {c : Int} {t : Tok} {Q : Value → Shared → Prop}
  (h : ∀ (z : Int) (u : Tok) (k : Nat), 0 ≤ z → (c < 0 → z = -c) → (¬ c < 0 → z = c) → Q (.int z u) { s with toks := k }) :
  wpAny (model prog w) A (call (Value.builtin "abs") [Value.int c t]) Q E s :=
  call_abs_int fun u tk => h _ u tk (by split <;> omega) (fun q => if_pos q) (fun q => if_neg q)
end Mine
namespace Mine
section
variable {prog : Program} {w : World} {A : Around} {E : Value → Shared → Prop} {s : Shared} {a b : Int} {t u : Tok} {Q : Value → Shared → Prop}
theorem mod_p (hb : 0 < b) (h : Q (.int (a % b) s.toks) { s with toks := s.toks + 1 }) : wpAny (model prog w) A (binaryOp .Mod (.int a t) (.int b u)) Q E s :=
  mod_int' (by omega) (by rw [Int.fmod_eq_emod_of_nonneg _ (by omega)]; exact h)
theorem div_p (hb : 0 < b) (h2 : b < 1000000) (h : Q (.int (a / b) s.toks) { s with toks := s.toks + 1 }) : wpAny (model prog w) A (binaryOp .FloorDiv (.int a t) (.int b u)) Q E s :=
  floordiv_int (by omega) (by rw [Int.fdiv_eq_ediv_of_nonneg _ (by omega)]; exact h) (Or.inl (PyProof.noPylong_small (by omega)))
end
end Mine
end
section
namespace Mine
theorem un_lt {un a b : Nat} (h : un + 8 * a < cLine) (k : b < a) : un + 3 + 8 * b < cLine := by omega
theorem dp_lt {dp a b : Nat} (h : dp + a < recursionLimit) (k : b < a) : dp + 1 + b < recursionLimit := by omega
theorem wp_tk {M : Model} {A : Around} {α : Type} {t : Sem α} {Q : α → Shared → Prop} {E : Value → Shared → Prop} {h : Heap} (s : Shared) {a b : Nat} (H : ∀ tk, wpAny M A t Q E ⟨h, s.gens, s.drawn, tk, s.os⟩) : wpAny M A t Q E ⟨h, s.gens, s.drawn, a + b, s.os⟩ := H (a + b)
theorem wp_join {M : Model} {A : Around} {α : Type} {t : Sem α} {Q : α → Shared → Prop} {E : Value → Shared → Prop} {s : Shared} (P : α → Shared → Prop) (h : wpAny M A t P E s) (k : ∀ v s', P v s' → Q v s') : wpAny M A t Q E s := wpAny_mono h k fun _ _ x => x
noncomputable def fm (al : List (PySem.Str × Value)) : PySem.Str → Option Value := fun y => al.lookup y
noncomputable def setA (x : PySem.Str) (v : Value) : List (PySem.Str × Value) → List (PySem.Str × Value)
  | [] => [(x, v)]
  | p :: r => if p.1 = x then (x, v) :: r else p :: setA x v r
theorem fm_set (x : PySem.Str) (v : Value) : ∀ al, (fun y => if y = x then some v else fm al y) = fm (setA x v al)
  | [] => by
    funext y
    simp only [fm, setA]
    by_cases h : y = x
    · subst h; rw [if_pos rfl, List.lookup_cons_self]
    · rw [if_neg h, List.lookup_cons, beq_false_of_ne h]
  | (k, u) :: r => by
    funext y
    have ih := congrFun (fm_set x v r) y
    simp only [fm] at ih
    simp only [fm, setA]
    have e1 : ∀ (k : PySem.Str) (u : Value) r, y ≠ k → List.lookup y ((k, u) :: r) = List.lookup y r := fun k u r h => by
      rw [List.lookup_cons, beq_false_of_ne h]
    have e2 : ∀ (u : Value) r, List.lookup y ((y, u) :: r) = some u := fun u r => List.lookup_cons_self
    by_cases hp : k = x
    · rw [if_pos hp]
      subst hp
      by_cases h : y = k
      · subst h; rw [if_pos rfl, e2]
      · rw [if_neg h, e1 _ _ _ h, e1 _ _ _ h]
    · rw [if_neg hp]
      by_cases h : y = x
      · subst h
        rw [if_pos rfl, e1 _ _ _ (Ne.symm hp), ← ih, if_pos rfl]
      · rw [if_neg h] at ih ⊢
        by_cases hk : y = k
        · subst hk; rw [e2, e2]
        · rw [e1 _ _ _ hk, e1 _ _ _ hk, ih]
theorem Fr.to {h₀ h : Heap} {L : Addr} {m m' : PySem.Str → Option Value} (F : Fr h₀ L h m) (e : m = m') : Fr h₀ L h m' := e ▸ F
theorem Fr.put {h₀ h : Heap} {L : Addr} {x : PySem.Str} {v : Value} {al al' : List (PySem.Str × Value)} (F : Fr h₀ L h (fun y => if y = x then some v else fm al y)) (e : setA x v al = al') : Fr h₀ L h (fm al') := e ▸ fm_set x v al ▸ F
noncomputable def fmu (al : List (PySem.Str × Value)) (u : PySem.Str → Option Value) : PySem.Str → Option Value := fun y => match al.lookup y with | some v => some v | none => u y
noncomputable def Has (m : PySem.Str → Option Value) : List (PySem.Str × Value) → Prop
  | [] => True
  | p :: r => m p.1 = some p.2 ∧ Has m r
theorem fmu_eq {m : PySem.Str → Option Value} : ∀ {al : List (PySem.Str × Value)}, Has m al → m = fmu al m
  | [], _ => rfl
  | (k, v) :: r, h => by
    have ih := fmu_eq h.2
    funext y
    have q := congrFun ih y
    unfold fmu at q ⊢
    by_cases hy : y = k
    · subst hy; rw [List.lookup_cons_self]; exact h.1
    · rw [List.lookup_cons, beq_false_of_ne hy]; exact q
theorem Fr.toU {h₀ h : Heap} {L : Addr} {m : PySem.Str → Option Value} {al : List (PySem.Str × Value)} (F : Fr h₀ L h m) (e : Has m al) : Fr h₀ L h (fmu al m) := Fr.to F (fmu_eq e)
noncomputable def topLs : List PySem.Str := looseW MineH.view [Str.ofString "BasicError"] ++ (recsOf MineH.view).map (·.name) ++ (litsOf MineH.view).map (·.1) ++ (clssOf MineH.view (looseW MineH.view [Str.ofString "BasicError"])).map (·.name)
@[reducible] noncomputable def Ledger := List (Addr × Obj)
noncomputable def Does (w : World) (f : Addr) (d : Nat) (vs : List Value) (news : Ledger) (R : (Value → Ledger → Prop) → Prop) : Prop :=
  ∀ (mean : ExcName → Option Value) (mg mb : PySem.Str → Option Value) (dp un : Nat) (gd : Option (List Code)) (cn : PySem.Str) (cs : Scope) (a : Addr) (ccd : Value) (cl : List (PySem.Str × Addr)) (outer : List Env) (A₀ : Around) (base h₀ : Heap) (L : Addr) (m : PySem.Str → Option Value) (s : Shared) (Q E : Value → Shared → Prop),
    Below A₀ base outer h₀ → Fr h₀ L s.heap m → (MineH.K w.params).In h₀ → News h₀ L s.heap news → Top topProg topLs mean mg mb h₀ → cs.kind = .function →
    dp + d < recursionLimit → un + 8 * d < cLine →
    R (fun v n => ∀ h' tk', Fr h₀ L h' m → News h₀ L h' n → Q v { s with heap := h', toks := tk' }) →
    wpAny (model PySem.Challenge.rw_pf0007_01.row.prog w) (ktrTop dp un gd cn cs L a ccd cl outer) (call (.ref f) vs) Q E s
theorem whl_ind {σ : Type} {prog : Program} {w : World} {A : Around} {E : Value → Shared → Prop} {env : Env} {test : PySem.Expr} {body orelse : List Stmt} {Q : Flow → Shared → Prop} {k : Nat} (I : σ → Shared → Prop) (μ : σ → Nat)
    (turn : ∀ c s, I c s → (∀ c' s', μ c' < μ c → I c' s' → WhlRest prog w A E env test body orelse Q k s') → WhlRest prog w A E env test body orelse Q (k + 1) s) (c : σ) (s : Shared) (h : I c s) : WhlRest prog w A E env test body orelse Q k s := by
  have all : ∀ n c s, μ c < n → I c s → WhlRest prog w A E env test body orelse Q k s := by
    intro n
    induction n with
    | zero => intro c s h; exact absurd h (Nat.not_lt_zero _)
    | succ n ih => exact fun c s h hi => turn c s hi fun c' s' h' => ih c' s' (Nat.lt_of_lt_of_le h' (Nat.le_of_lt_succ h))
  exact all _ c s (Nat.lt_succ_self _) h
section
variable {prog : Program} {w : World} {A : Around} {E : Value → Shared → Prop} {env : Env} {test : PySem.Expr} {body orelse : List Stmt} {Q : Flow → Shared → Prop}
noncomputable def Lp (prog : Program) (w : World) (A : Around) (E : Value → Shared → Prop) (env : Env) (test : PySem.Expr) (body orelse : List Stmt) (Q : Flow → Shared → Prop) (s : Shared) : Prop := WhlRest prog w A E env test body orelse Q 0 s
noncomputable def LpPost (prog : Program) (w : World) (A : Around) (E : Value → Shared → Prop) (env : Env) (test : PySem.Expr) (body orelse : List Stmt) (Q : Flow → Shared → Prop) (f : Flow) (s : Shared) : Prop :=
  match f with
  | .next => Lp prog w A E env test body orelse Q s
  | .cont => Lp prog w A E env test body orelse Q s
  | .brk => Q .next s
  | .ret v => Q (.ret v) s
theorem whlIf_dec {p : Prop} [Decidable p] {T F : Prop} (t : p → T) (f : ¬ p → F) : WhlIf (decide p) T F := by
  by_cases h : p
  · exact WhlIf.yes (decide_eq_true h) (t h)
  · exact WhlIf.no (decide_eq_false h) (f h)
theorem lp_turn {s : Shared} (hE : PassesOwn (model prog w) A env E)
    (h : wpAny (model prog w) A (isTrue test env (eval test env)) (fun b s₂ => WhlIf b (wpAny (model prog w) A (execs body env) (LpPost prog w A E env test body orelse Q) E s₂) (wpAny (model prog w) A (execs orelse env) Q E s₂)) E s) :
    Lp prog w A E env test body orelse Q s := whl_turn (k := 0) hE h
theorem lp_start {s : Shared} {pos : Pos} (h : Lp prog w A E env test body orelse Q s) : wpAny (model prog w) A (exec (.While test body orelse pos) env) Q E s := whl_start 0 h
theorem lp_ind {σ : Type} (I : σ → Shared → Prop) (μ : σ → Nat)
    (turn : ∀ c s, I c s → (∀ c' s', μ c' < μ c → I c' s' → Lp prog w A E env test body orelse Q s') → Lp prog w A E env test body orelse Q s) (c : σ) (s : Shared) (h : I c s) : Lp prog w A E env test body orelse Q s := by
  have all : ∀ n c s, μ c < n → I c s → Lp prog w A E env test body orelse Q s := by
    intro n
    induction n with
    | zero => intro c s h; exact absurd h (Nat.not_lt_zero _)
    | succ n ih => exact fun c s h hi => turn c s hi fun c' s' h' => ih c' s' (Nat.lt_of_lt_of_le h' (Nat.le_of_lt_succ h))
  exact all _ c s (Nat.lt_succ_self _) h
end
@[reducible] noncomputable def tupO (l : List Value) : Obj := { cls := .type "tuple", data := .seq l.toArray }
@[reducible] noncomputable def optV (o : Option PySem.Str) (t : Tok) : Value := match o with | some x => .str x t | none => .none
noncomputable def Hold (P : Prop) : Prop := P
theorem hold {P : Prop} (h : Hold P) : P := h
theorem items_ind {σ : Type} {prog : Program} {w : World} {A : Around} {E : Value → Shared → Prop} {h₀ : Heap} {env : Env} {target : PySem.Expr} {body : List Stmt} {Q : Flow → Shared → Prop} {s : Shared} {ws : List (Addr × String)} {keep : Ledger}
    (I : σ → List Itm → (PySem.Str → Option Value) → Ledger → Prop)
    (nil : ∀ c m news, I c [] m news → ItemsRest prog w A E h₀ env target body Q s ws keep [] m news)
    (cons : ∀ c a r m news, I c (a :: r) m news → (∀ c' m' news', I c' r m' news' → ItemsRest prog w A E h₀ env target body Q s ws keep r m' news') → ItemsRest prog w A E h₀ env target body Q s ws keep (a :: r) m news) :
    ∀ (xs : List Itm) (c : σ) m news, I c xs m news → ItemsRest prog w A E h₀ env target body Q s ws keep xs m news
  | [], c, m, news, h => nil c m news h
  | a :: r, c, m, news, h => cons c a r m news h fun c' m' news' h' => items_ind I nil cons r c' m' news' h'
theorem news_comm {h₀ h : Heap} {L : Addr} {a b : Ledger} (N : News h₀ L h (a ++ b)) : News h₀ L h (b ++ a) := fun p hp => N p (List.mem_append.mpr (List.mem_append.mp hp).symm)
theorem all_app {P : Addr × Obj → Prop} {a b : Ledger} (h1 : ∀ p ∈ a, P p) (h2 : ∀ p ∈ b, P p) : ∀ p ∈ a ++ b, P p := fun p hp => (List.mem_append.mp hp).elim (h1 p) (h2 p)
theorem sub_tail {l r : Ledger} {q : Addr × Obj} (h : ∀ p ∈ l, p ∈ r) : ∀ p ∈ l, p ∈ q :: r := fun p hp => .tail _ (h p hp)
theorem sub_refl {l : Ledger} : ∀ p ∈ l, p ∈ l := fun _ h => h
theorem sub_nil {r : Ledger} : ∀ p ∈ ([] : Ledger), p ∈ r := fun _ h => nomatch h
theorem sub_cons {l r : Ledger} {q : Addr × Obj} (h : q ∈ r) (t : ∀ p ∈ l, p ∈ r) : ∀ p ∈ q :: l, p ∈ r := List.forall_mem_cons.mpr ⟨h, t⟩
theorem sub_apR {l r t : Ledger} (h : ∀ p ∈ l, p ∈ r) : ∀ p ∈ l, p ∈ t ++ r := fun p hp => List.mem_append.mpr (.inr (h p hp))
theorem sub_apl {l m r : Ledger} (h : ∀ p ∈ l, p ∈ r) (t : ∀ p ∈ m, p ∈ r) : ∀ p ∈ l ++ m, p ∈ r := fun p hp => (List.mem_append.mp hp).elim (h p) (t p)
theorem sub_apL {l r t : Ledger} (h : ∀ p ∈ l, p ∈ t) : ∀ p ∈ l, p ∈ t ++ r := fun p hp => List.mem_append.mpr (.inl (h p hp))
noncomputable def Jn (g' : Heap) (L' : Addr) (g : Array GenState) (dr : Drawn) (o : OsState) (P : (PySem.Str → Option Value) → Prop) (nw : Ledger) (f : Flow) (s' : Shared) : Prop :=
  f = .next ∧ ∃ m' h' tk', P m' ∧ Fr g' L' h' m' ∧ News g' L' h' nw ∧ s' = ⟨h', g, dr, tk', o⟩
theorem Jn.mk {g' : Heap} {L' : Addr} {g : Array GenState} {dr : Drawn} {o : OsState} {P : (PySem.Str → Option Value) → Prop} {nw : Ledger} {m' : PySem.Str → Option Value} {h' : Heap} {tk' : Nat} (F : Fr g' L' h' m') (N : News g' L' h' nw) (H : P m') : Jn g' L' g dr o P nw .next ⟨h', g, dr, tk', o⟩ := ⟨rfl, m', h', tk', H, F, N, rfl⟩
theorem Does.use {w : World} {f : Addr} {d : Nat} {vs : List Value} {news : Ledger} {R : (Value → Ledger → Prop) → Prop} (D : Does w f d vs news R)
    {mean : ExcName → Option Value} {mg mb : PySem.Str → Option Value} {dp un : Nat} {gd : Option (List Code)} {cn : PySem.Str} {cs : Scope} {a : Addr} {ccd : Value} {cl : List (PySem.Str × Addr)} {outer : List Env} {A₀ : Around} {base h₀ : Heap} {L : Addr} {m : PySem.Str → Option Value} {s : Shared} {Q E : Value → Shared → Prop}
    (B : Below A₀ base outer h₀) (F : Fr h₀ L s.heap m) (X : (MineH.K w.params).In h₀) (N : News h₀ L s.heap news) (T : Top topProg topLs mean mg mb h₀) (hk : cs.kind = .function)
    (hd : dp + d < recursionLimit) (hu : un + 8 * d < cLine) (ret : R (fun v n => ∀ h' tk', Fr h₀ L h' m → News h₀ L h' n → Q v { s with heap := h', toks := tk' })) :
    wpAny (model PySem.Challenge.rw_pf0007_01.row.prog w) (ktrTop dp un gd cn cs L a ccd cl outer) (call (.ref f) vs) Q E s :=
  D _ _ _ _ _ _ _ _ _ _ _ _ _ _ _ _ _ _ _ _ B F X N T hk hd hu ret
end Mine
end
local macro_rules | `(tactic| walk_at $s:str) => `(tactic| k_extra $s)
local macro_rules | `(tactic| k_all) => `(tactic| k_extra "KALL")
local macro_rules | `(tactic| k_mem) => `(tactic| k_extra "KMEM")
local macro_rules | `(tactic| kst_same) => `(tactic| k_extra "KST")
section
namespace Mine
theorem fillK : PySem.Challenge.rw_pf0007_01.Holds → (∀ P, MineH.K P = MineH.K P) → True := by
  k_fill
  intros; trivial
theorem kw_W1_0 : True := by
  k_with_none
  w_top off
  k_with "exec Assign" => walk_at "FOLD"
  k_with "exec Return some" => walk_at "FOLD"
  k_with "exec If" => walk_at "FOLD"
  k_with "exec AugAssign" => walk_at "FOLD"
  k_with "exec Expr" => walk_at "FOLD"
  k_with "eval Tuple" => walk_at "FOLD"
  k_with "eval List" => walk_at "FOLD"
  k_with "eval BinOp" => walk_at "FOLD"
  k_with "eval Call" => walk_at "FOLD"
  k_with "eval Subscript" => walk_at "FOLD"
  k_with "eval IfExp" => walk_at "FOLD"
  k_with "isTrue BoolOp" => walk_at "FOLD"
  k_with "isTrue Compare" => walk_at "FOLD"
  k_with "eval Call Attribute" => walk_at "FOLD"
  k_with "FOLD" => ((fail_if_success (fail_if_success k_fold)); refine (let qk := _; let ek := _; (?_ : wpAny _ _ _ qk ek _)))
  k_with "execs cons" => (refine wp_tk s ?_; intro _)
  k_with "ENTER" => ((case k6 => k_is); (case k7 => k_is); (case k8 => ktr_room); (case k9 => exact BindsTo.of_eq rfl); (case c5 => decide); (case kB => exact locs rfl); (case c2 => exact rfl); (case c3 => exact rfl); (case c4 => exact rfl); k_whole)
  k_with "LpPost" => (dsimp only [LpPost])
  k_with "USE" => ((case k1 => k_asm); (case k2 => k_asm); (case k3 => k_asm); (case k4 => k_asm); (case k5 => k_asm); (case kK => first | exact rfl | assumption); (case kd => first | exact dp_lt (by with_reducible assumption) (by decide) | ktr_room); (case ku => first | exact un_lt (by with_reducible assumption) (by decide) | ktr_units))
  k_with "SIDE" => first | assumption | omega
  k_with "call builtin:str.find" => (k_here; refine find_r (by decide +kernel) (by omega) ?_; intro _)
  trivial
inductive BlI (x : PySem.Str) (i : Int) (t : Tok) (g' : Heap) (L' : Addr) (news : Ledger) (s : Shared) (j : Int) (s1 : Shared) : Prop
  | mk (h : Heap) (tk : Nat) (u : Tok) (h0 : s1 = ⟨h, s.gens, s.drawn, tk, s.os⟩) (h1 : 0 ≤ j) (h2 : j ≤ x.length) (h3 : blankEnd x j.toNat = blankEnd x i.toNat) (h4 : Fr g' L' h (fm [(Str.ofString "at", .int j u), (Str.ofString "text", .str x t)])) (h5 : News g' L' h news) : BlI x i t g' L' news s j s1
theorem blank_end_spec (w : World) (news : Ledger) (x : PySem.Str) (i : Int) (t t2 : Tok) (hx : x.length ≤ 1000) (h0 : 0 ≤ i) (hi : i ≤ x.length) :
   Does w 85 1 [.str x t, .int i t2] news (fun K => ∀ t, K (.int (blankEnd x i.toNat) t) news) := by
  unfold Does
  intro mean mg mb dp un gd cn cs a ccd cl outer A₀ base h₀ L m s Q E B F X N T hk hd hu ret
  refine wpAny_call ?_
  k_dflt (refine' code_def (binds := [(Str.ofString "text", .str x t), (Str.ofString "at", .int i t2)]) B F X N T rfl rfl hk ?k6 ?k7 ?k8 ?k9 ?kB ?_ ?c2 ?c3 ?c4 ?c5)
  walk_at "ENTER"
  intro g' L' h' FG' F' N' B' X' T'
  k_fold
  refine wpAny_execs_cons ?_
  refine lp_start ?_
  refine lp_ind (BlI x i t g' L' news s) (fun j => x.length - j.toNat) ?_ i _ ⟨_, _, _, rfl, h0, hi, rfl, F', N'⟩
  clear F' N'
  rintro j _ ⟨h, tk, u, rfl, hj0, hj, hb, F', N'⟩ IH
  refine lp_turn ?hE ?_
  case hE => passes_own
  k_steps
  · rw [← blank_stop hj0 (by with_reducible assumption) (by with_reducible assumption), hb]; exact ret _ _ _ (by k_asm) (by k_asm)
  · exact IH (j + 1) _ (by omega) ⟨_, _, _, rfl, by omega, by omega, by rw [← hb, blank_go hj0 (by with_reducible assumption) (by with_reducible assumption)], Fr.put (by k_asm) rfl, by k_asm⟩
  · rw [← blank_end hj0 (by with_reducible assumption), hb]; exact ret _ _ _ (by k_asm) (by k_asm)
theorem kw_W1_1 : True := by
  k_with "call ref" => (k_here; k_dflt (refine' Does.use (blank_end_spec _ _ _ _ _ _ ?s1 ?s2 ?s3) ?k1 ?k2 ?k3 ?k4 ?k5 ?kK ?kd ?ku ?_); walk_at "USE"; (case s1 => walk_at "SIDE"); (case s2 => walk_at "SIDE"); (case s3 => walk_at "SIDE"); intro t9 h9 tk9 F9 N9; (try dsimp only); (try k_fold))
  trivial
noncomputable def quotedF (x : PySem.Str) (j : Int) : PySem.Str × Int :=
  if Txt.find3 x (PySem.Str.ofString "\"") (j + 1) < 0 then (Txt.slice x (some (j + 1)) none, x.length)
  else (Txt.slice x (some (j + 1)) (some (Txt.find3 x (PySem.Str.ofString "\"") (j + 1))), blankEnd x (Txt.find3 x (PySem.Str.ofString "\"") (j + 1) + 1).toNat)
theorem quotedF_facts {x : PySem.Str} {i : Int} (h0 : 0 ≤ i) (hi : i ≤ x.length) : i ≤ (quotedF x i).2 ∧ (quotedF x i).2 ≤ x.length ∧ (quotedF x i).1.length ≤ x.length := by
  have h1 := find3_lt (x := x) (y := PySem.Str.ofString "\"") (j := i + 1) (by decide +kernel) (by omega)
  have h3 := find3_ge (x := x) (y := PySem.Str.ofString "\"") (j := i + 1) (by decide +kernel) (by omega)
  unfold quotedF
  split
  · exact ⟨by simp only; omega, by simp only; omega, Txt.slice_le _ _ _⟩
  · have h2 := blankEnd_le (x := x) (i := (Txt.find3 x (PySem.Str.ofString "\"") (i + 1) + 1).toNat) (by omega)
    exact ⟨by simp only; omega, by simp only; omega, Txt.slice_le _ _ _⟩
theorem quoted_spec (w : World) (news : Ledger) (x : PySem.Str) (i : Int) (t t2 : Tok) (hx : x.length ≤ 1000) (h0 : 0 ≤ i) (hi : i ≤ x.length) :
   Does w 92 2 [.str x t, .int i t2] news (fun K => ∀ a t1 t2, i ≤ (quotedF x i).2 → (quotedF x i).2 ≤ x.length → (quotedF x i).1.length ≤ x.length → (∀ p ∈ news, p.1 < a) → K (.ref a) ((a, tupO [.str (quotedF x i).1 t1, .int (quotedF x i).2 t2]) :: news)) := by
  unfold Does
  intro mean mg mb dp un gd cn cs a ccd cl outer A₀ base h₀ L m s Q E B F X N T hk hd hu ret
  refine wpAny_call ?_
  k_dflt (refine' code_def (binds := [(Str.ofString "text", .str x t), (Str.ofString "at", .int i t2)]) B F X N T rfl rfl hk ?k6 ?k7 ?k8 ?k9 ?kB ?_ ?c2 ?c3 ?c4 ?c5)
  walk_at "ENTER"
  intro g' L' h' FG' F' N' B' X' T'
  k_fold
  k_steps
  · replace ret := fun a t1 t2 => ret a t1 t2 (quotedF_facts h0 hi).1 (quotedF_facts h0 hi).2.1 (quotedF_facts h0 hi).2.2
    rw [quotedF, if_pos (by with_reducible assumption)] at ret
    exact ret _ _ _ (by with_reducible assumption) _ _ (by k_asm) (by k_asm)
  · replace ret := fun a t1 t2 => ret a t1 t2 (quotedF_facts h0 hi).1 (quotedF_facts h0 hi).2.1 (quotedF_facts h0 hi).2.2
    rw [quotedF, if_neg (by with_reducible assumption)] at ret
    exact ret _ _ _ (by with_reducible assumption) _ _ (by k_asm) (by k_asm)
end Mine
end
section
namespace Mine
theorem kw_W2_0 : True := by
  k_with_none
  w_top off
  k_with "exec Assign" => walk_at "FOLD"
  k_with "exec Return some" => walk_at "FOLD"
  k_with "exec If" => walk_at "FOLD"
  k_with "exec AugAssign" => walk_at "FOLD"
  k_with "exec Expr" => walk_at "FOLD"
  k_with "eval Tuple" => walk_at "FOLD"
  k_with "eval List" => walk_at "FOLD"
  k_with "eval BinOp" => walk_at "FOLD"
  k_with "eval Call" => walk_at "FOLD"
  k_with "eval Subscript" => walk_at "FOLD"
  k_with "eval IfExp" => walk_at "FOLD"
  k_with "isTrue BoolOp" => walk_at "FOLD"
  k_with "isTrue Compare" => walk_at "FOLD"
  k_with "eval Call Attribute" => walk_at "FOLD"
  k_with "FOLD" => ((fail_if_success (fail_if_success k_fold)); refine (let qk := _; let ek := _; (?_ : wpAny _ _ _ qk ek _)))
  k_with "execs cons" => (refine wp_tk s ?_; intro _)
  k_with "ENTER" => ((case k6 => k_is); (case k7 => k_is); (case k8 => ktr_room); (case k9 => exact BindsTo.of_eq rfl); (case c5 => decide); (case kB => exact locs rfl); (case c2 => exact rfl); (case c3 => exact rfl); (case c4 => exact rfl); k_whole)
  k_with "LpPost" => (dsimp only [LpPost])
  k_with "USE" => ((case k1 => k_asm); (case k2 => k_asm); (case k3 => k_asm); (case k4 => k_asm); (case k5 => k_asm); (case kK => first | exact rfl | assumption); (case kd => first | exact dp_lt (by with_reducible assumption) (by decide) | ktr_room); (case ku => first | exact un_lt (by with_reducible assumption) (by decide) | ktr_units))
  k_with "SIDE" => first | assumption | omega
  k_with "call builtin:str.find" => (k_here; refine find_r (by decide +kernel) (by omega) ?_; intro _)
  k_with "call ref" => (k_here; k_dflt (refine' Does.use (blank_end_spec _ _ _ _ _ _ ?s1 ?s2 ?s3) ?k1 ?k2 ?k3 ?k4 ?k5 ?kK ?kd ?ku ?_); walk_at "USE"; (case s1 => walk_at "SIDE"); (case s2 => walk_at "SIDE"); (case s3 => walk_at "SIDE"); intro t9 h9 tk9 F9 N9; (try dsimp only); (try k_fold))
  k_with "call ref" => (k_here; k_dflt (refine' Does.use (quoted_spec _ _ _ _ _ _ ?s1 ?s2 ?s3) ?k1 ?k2 ?k3 ?k4 ?k5 ?kK ?kd ?ku ?_); walk_at "USE"; (case s1 => walk_at "SIDE"); (case s2 => walk_at "SIDE"); (case s3 => walk_at "SIDE"); intro a9 t9 u9 _ _ _ l9 h9 tk9 F9 N9; (try dsimp only); (try k_fold))
  k_with "SUB" => ((try simp only [List.cons_append, List.nil_append]); repeat (first | with_reducible exact sub_refl | with_reducible exact sub_nil | ((with_reducible refine sub_cons ?hm ?_); (case hm => k_mem)) | with_reducible refine sub_tail ?_ | with_reducible refine sub_apR ?_))
  trivial
noncomputable def fieldF (x : PySem.Str) (i : Int) : Option PySem.Str × Int × Bool :=
  let j : Int := blankEnd x i.toNat
  if (Txt.slice x (some j) (some (j + 1)) == PySem.Str.ofString "\"") = true then
    let q := quotedF x j
    (if q.2 = x.length ∨ (Txt.item x q.2 == PySem.Str.ofString ",") = true then some q.1 else none, q.2, true)
  else
    let e := if Txt.find3 x (PySem.Str.ofString ",") j < 0 then (x.length : Int) else Txt.find3 x (PySem.Str.ofString ",") j
    (some (Txt.rstripChars (Txt.slice x (some j) (some e)) (PySem.Str.ofString " \t")), e, false)
section
variable {x : PySem.Str} {i : Int}
theorem fieldF_q1 (h : (Txt.slice x (some (blankEnd x i.toNat : Int)) (some ((blankEnd x i.toNat : Int) + 1)) == PySem.Str.ofString "\"") = true) (h2 : (quotedF x (blankEnd x i.toNat)).2 = x.length ∨ (Txt.item x (quotedF x (blankEnd x i.toNat)).2 == PySem.Str.ofString ",") = true) :
    fieldF x i = (some (quotedF x (blankEnd x i.toNat)).1, (quotedF x (blankEnd x i.toNat)).2, true) := by
  unfold fieldF; simp only; rw [if_pos h, if_pos h2]
theorem fieldF_q2 (h : (Txt.slice x (some (blankEnd x i.toNat : Int)) (some ((blankEnd x i.toNat : Int) + 1)) == PySem.Str.ofString "\"") = true) (h2 : (quotedF x (blankEnd x i.toNat)).2 ≠ x.length) (h3 : (Txt.item x (quotedF x (blankEnd x i.toNat)).2 == PySem.Str.ofString ",") = false) :
    fieldF x i = (none, (quotedF x (blankEnd x i.toNat)).2, true) := by
  unfold fieldF; simp only; rw [if_pos h, if_neg (by rintro (q | q); exact h2 q; rw [h3] at q; cases q)]
theorem fieldF_b1 (h : (Txt.slice x (some (blankEnd x i.toNat : Int)) (some ((blankEnd x i.toNat : Int) + 1)) == PySem.Str.ofString "\"") = false) (h2 : Txt.find3 x (PySem.Str.ofString ",") (blankEnd x i.toNat) < 0) :
    fieldF x i = (some (Txt.rstripChars (Txt.slice x (some (blankEnd x i.toNat : Int)) (some (x.length : Int))) (PySem.Str.ofString " \t")), (x.length : Int), false) := by
  unfold fieldF; simp only; rw [if_neg (by rw [h]; exact Bool.false_ne_true), if_pos h2]
theorem fieldF_b2 (h : (Txt.slice x (some (blankEnd x i.toNat : Int)) (some ((blankEnd x i.toNat : Int) + 1)) == PySem.Str.ofString "\"") = false) (h2 : ¬ Txt.find3 x (PySem.Str.ofString ",") (blankEnd x i.toNat) < 0) :
    fieldF x i = (some (Txt.rstripChars (Txt.slice x (some (blankEnd x i.toNat : Int)) (some (Txt.find3 x (PySem.Str.ofString ",") (blankEnd x i.toNat)))) (PySem.Str.ofString " \t")), Txt.find3 x (PySem.Str.ofString ",") (blankEnd x i.toNat), false) := by
  unfold fieldF; simp only; rw [if_neg (by rw [h]; exact Bool.false_ne_true), if_neg h2]
theorem rstrip_le (x c : PySem.Str) : (Txt.rstripChars x c).length ≤ x.length := len_rstripChars x c
theorem fieldF_facts (h0 : 0 ≤ i) (hi : i ≤ x.length) : i ≤ (fieldF x i).2.1 ∧ (fieldF x i).2.1 ≤ x.length ∧ ∀ y, (fieldF x i).1 = some y → y.length ≤ x.length := by
  have hb := blankEnd_le (x := x) (i := i.toNat) (by omega)
  have h1 := find3_lt (x := x) (y := PySem.Str.ofString ",") (j := (blankEnd x i.toNat : Int)) (by decide +kernel) (by omega)
  have h3 := find3_ge (x := x) (y := PySem.Str.ofString ",") (j := (blankEnd x i.toNat : Int)) (by decide +kernel) (by omega)
  have hq := quotedF_facts (x := x) (i := (blankEnd x i.toNat : Int)) (by omega) (by omega)
  unfold fieldF
  simp only
  split
  · refine ⟨by have := hq.1; simp only; omega, hq.2.1, fun y hy => ?_⟩
    split at hy
    · cases hy; exact hq.2.2
    · cases hy
  · refine ⟨by simp only; split <;> omega, by simp only; split <;> omega, fun y hy => ?_⟩
    cases hy
    exact Nat.le_trans (rstrip_le _ _) (Txt.slice_le _ _ _)
end
theorem field_spec (w : World) (news : Ledger) (x : PySem.Str) (i : Int) (t t2 : Tok) (hx : x.length ≤ 1000) (h0 : 0 ≤ i) (hi : i ≤ x.length) :
   Does w 99 3 [.str x t, .int i t2] news (fun K => ∀ a t1 t2, i ≤ (fieldF x i).2.1 → (fieldF x i).2.1 ≤ x.length → (∀ p ∈ news, p.1 < a) →
     ((fieldF x i).1 = none → K (.ref a) ((a, tupO [.none, .int (fieldF x i).2.1 t2, .bool (fieldF x i).2.2]) :: news)) ∧
     (∀ y, (fieldF x i).1 = some y → y.length ≤ x.length → K (.ref a) ((a, tupO [.str y t1, .int (fieldF x i).2.1 t2, .bool (fieldF x i).2.2]) :: news))) := by
  unfold Does
  intro mean mg mb dp un gd cn cs a ccd cl outer A₀ base h₀ L m s Q E B F X N T hk hd hu ret
  have hb := blankEnd_le (x := x) (i := i.toNat) (by omega)
  have hf := fieldF_facts (x := x) h0 hi
  replace ret := fun a t1 t2 => ret a t1 t2 hf.1 hf.2.1
  have hlen := hf.2.2
  clear hf
  refine wpAny_call ?_
  k_dflt (refine' code_def (binds := [(Str.ofString "text", .str x t), (Str.ofString "at", .int i t2)]) B F X N T rfl rfl hk ?k6 ?k7 ?k8 ?k9 ?kB ?_ ?c2 ?c3 ?c4 ?c5)
  walk_at "ENTER"
  intro g' L' h' FG' F' N' B' X' T'
  k_fold
  k_steps
  · rw [fieldF_q1 (by with_reducible assumption) (.inl (by with_reducible assumption))] at ret hlen
    exact (ret _ _ _ (ktn_ltOf (show _ ∧ AllLt _ news from by with_reducible assumption).2)).2 _ rfl (hlen _ rfl) _ _ (by k_asm) (cb_drop (by k_asm) (by walk_at "SUB"))
  · rw [fieldF_q1 (by with_reducible assumption) (.inr (by with_reducible assumption))] at ret hlen
    exact (ret _ _ _ (ktn_ltOf (show _ ∧ AllLt _ news from by with_reducible assumption).2)).2 _ rfl (hlen _ rfl) _ _ (by k_asm) (cb_drop (by k_asm) (by walk_at "SUB"))
  · rw [fieldF_q2 (by with_reducible assumption) (by with_reducible assumption) (by with_reducible assumption)] at ret
    exact (ret _ 0 _ (ktn_ltOf (show _ ∧ AllLt _ news from by with_reducible assumption).2)).1 rfl _ _ (by k_asm) (cb_drop (by k_asm) (by walk_at "SUB"))
  · rw [fieldF_b1 (by with_reducible assumption) (by with_reducible assumption)] at ret hlen
    exact (ret _ _ _ (by with_reducible assumption)).2 _ rfl (hlen _ rfl) _ _ (by k_asm) (by k_asm)
  · rw [fieldF_b2 (by with_reducible assumption) (by with_reducible assumption)] at ret hlen
    exact (ret _ _ _ (by with_reducible assumption)).2 _ rfl (hlen _ rfl) _ _ (by k_asm) (by k_asm)
end Mine
end
section
namespace Mine
theorem kw_W3_0 : True := by
  k_with_none
  w_top off
  k_with "exec Assign" => walk_at "FOLD"
  k_with "exec Return some" => walk_at "FOLD"
  k_with "exec If" => walk_at "FOLD"
  k_with "exec AugAssign" => walk_at "FOLD"
  k_with "exec Expr" => walk_at "FOLD"
  k_with "eval Tuple" => walk_at "FOLD"
  k_with "eval List" => walk_at "FOLD"
  k_with "eval BinOp" => walk_at "FOLD"
  k_with "eval Call" => walk_at "FOLD"
  k_with "eval Subscript" => walk_at "FOLD"
  k_with "eval IfExp" => walk_at "FOLD"
  k_with "isTrue BoolOp" => walk_at "FOLD"
  k_with "isTrue Compare" => walk_at "FOLD"
  k_with "eval Call Attribute" => walk_at "FOLD"
  k_with "FOLD" => ((fail_if_success (fail_if_success k_fold)); refine (let qk := _; let ek := _; (?_ : wpAny _ _ _ qk ek _)))
  k_with "execs cons" => (refine wp_tk s ?_; intro _)
  k_with "ENTER" => ((case k6 => k_is); (case k7 => k_is); (case k8 => ktr_room); (case k9 => exact BindsTo.of_eq rfl); (case c5 => decide); (case kB => exact locs rfl); (case c2 => exact rfl); (case c3 => exact rfl); (case c4 => exact rfl); k_whole)
  k_with "LpPost" => (dsimp only [LpPost])
  k_with "USE" => ((case k1 => k_asm); (case k2 => k_asm); (case k3 => k_asm); (case k4 => k_asm); (case k5 => k_asm); (case kK => first | exact rfl | assumption); (case kd => first | exact dp_lt (by with_reducible assumption) (by decide) | ktr_room); (case ku => first | exact un_lt (by with_reducible assumption) (by decide) | ktr_units))
  k_with "SIDE" => first | assumption | omega
  k_with "call builtin:str.find" => (k_here; refine find_r (by decide +kernel) (by omega) ?_; intro _)
  k_with "SUB" => ((try simp only [List.cons_append, List.nil_append]); repeat (first | with_reducible exact sub_refl | with_reducible exact sub_nil | ((with_reducible refine sub_cons ?hm ?_); (case hm => k_mem)) | with_reducible refine sub_tail ?_ | with_reducible refine sub_apR ?_))
  k_with "call ref" => (k_here; k_dflt (refine' Does.use (field_spec _ _ _ _ _ _ ?s1 ?s2 ?s3) ?k1 ?k2 ?k3 ?k4 ?k5 ?kK ?kd ?ku ?_); walk_at "USE"; (case s1 => walk_at "SIDE"); (case s2 => walk_at "SIDE"); (case s3 => walk_at "SIDE"); intro a9 t9 u9 _ _ l9; (k_lt l9); (first | (refine And.intro (fun hy9 h9 tk9 F9 N9 => ?_) (fun y9 hy9 hlen9 h9 tk9 F9 N9 => ?_) <;> ((try dsimp only); (try k_fold)))))
  k_with "exec While" => (refine lp_start ?_)
  trivial
theorem kw_W3_m0 : True := by
  k_with "KALL" => (assumption)
  trivial
theorem kw_W3_1 : True := by
  k_with "SUBO" => (repeat (first | exact fun _ h => h | rw [List.cons_append] | (refine List.forall_mem_cons.mpr ⟨by k_mem, ?_⟩) | refine sub_tail ?_))
  trivial
inductive ToldR (x : PySem.Str) : Int → List (PySem.Str × Bool) → Option (List (PySem.Str × Bool)) → Prop
  | none {j acc} : (fieldF x j).1 = none → ToldR x j acc none
  | last {j acc y} : (fieldF x j).1 = some y → ¬ (fieldF x j).2.1 < x.length → ToldR x j acc (some (acc ++ [(y, (fieldF x j).2.2)]))
  | more {j acc y r} : (fieldF x j).1 = some y → (fieldF x j).2.1 < x.length → ToldR x ((fieldF x j).2.1 + 1) (acc ++ [(y, (fieldF x j).2.2)]) r → ToldR x j acc r
noncomputable def fD (p : PySem.Str × Bool) : Dat := .tuple [.str p.1, .bool p.2]
noncomputable def ToldI (x : PySem.Str) (c : Int × List (PySem.Str × Bool) × Bool) : Prop :=
  if c.2.2 then 0 ≤ c.1 ∧ c.1 ≤ x.length ∧ c.2.1.length ≤ c.1.toNat ∧ ∀ r, ToldR x c.1 c.2.1 r → ToldR x 0 [] r else c.2.1.length ≤ 1001 ∧ ToldR x 0 [] (some c.2.1)
inductive ToI (x : PySem.Str) (t : Tok) (g' : Heap) (L' : Addr) (news : Ledger) (s : Shared) (c : Int × List (PySem.Str × Bool) × Bool) (s1 : Shared) : Prop
  | mk (h : Heap) (tk : Nat) (u : Tok) (m : PySem.Str → Option Value) (fl : Addr) (vs : List Value) (n : Nat) (tl : Ledger) (h0 : s1 = ⟨h, s.gens, s.drawn, tk, s.os⟩) (h1 : ToldI x c) (h2 : Fr g' L' h (fmu [(Str.ofString "is_going", .bool c.2.2), (Str.ofString "at", .int c.1 u), (Str.ofString "found", .ref fl), (Str.ofString "text", .str x t)] m)) (h3 : News g' L' h ((fl, listOf vs.toArray n) :: (tl ++ news))) (h4 : DatAll tl vs (c.2.1.map fD)) (h5 : (∀ p ∈ tl ++ news, p.1 ≠ fl)) (h6 : (∀ q ∈ news, ∀ p ∈ (fl, listOf vs.toArray n) :: tl, q.1 < p.1)) : ToI x t g' L' news s c s1
theorem told_spec (w : World) (news : Ledger) (x : PySem.Str) (t : Tok) (hx : x.length ≤ 1000) :
   Does w 106 4 [.str x t] news (fun K => (ToldR x 0 [] none → K .none news) ∧ ∀ acc, ToldR x 0 [] (some acc) → acc.length ≤ 1001 → ∀ fl vs n tl, DatAll tl vs (acc.map fD) → (∀ q ∈ news, ∀ p ∈ (fl, listOf vs.toArray n) :: tl, q.1 < p.1) → (∀ p ∈ tl, p.1 ≠ fl) → K (.ref fl) ((fl, listOf vs.toArray n) :: (tl ++ news))) := by
  unfold Does
  intro mean mg mb dp un gd cn cs a ccd cl outer A₀ base h₀ L m s Q E B F X N T hk hd hu ret
  refine wpAny_call ?_
  k_dflt (refine' code_def (binds := [(Str.ofString "text", .str x t)]) B F X N T rfl rfl hk ?k6 ?k7 ?k8 ?k9 ?kB ?_ ?c2 ?c3 ?c4 ?c5)
  walk_at "ENTER"
  intro g' L' h' FG' F' N' B' X' T'
  k_fold
  k_steps
  refine lp_ind (ToI x t g' L' news s) (fun c => if c.2.2 then (x.length + 2 - c.1.toNat) else 0) ?_ (0, [], true) _
      ⟨_, _, _, _, _, [], 0, [], rfl, ⟨by simp, by simp, by simp, fun r h => h⟩, Fr.toU (by k_asm) ⟨rfl, rfl, rfl, rfl, trivial⟩, cb_drop (by k_asm) (by walk_at "SUB"), .nil, ?_, ?_⟩
  case refine_2 => exact fun p hp => Nat.ne_of_lt ((show ∀ p ∈ news, p.1 < _ from by with_reducible assumption) p (by simpa using hp))
  case refine_3 => exact fun q hq p hp => by rw [List.mem_singleton.mp hp]; exact (show ∀ p ∈ news, p.1 < _ from by with_reducible assumption) q hq
  rintro ⟨j, acc, b⟩ _ ⟨h, tk, u, m1, fl, vs, n, tl, rfl, hI, F', N', hD, hoff, hord⟩ IH
  cases b with
  | false =>
    obtain ⟨hlen, hT⟩ := hI
    refine lp_turn ?hE ?_
    case hE => passes_own
    k_steps
    exact ret.2 _ hT hlen _ _ _ _ hD hord (fun p hp => hoff p (List.mem_append.mpr (.inl hp))) _ _ (by k_asm) (by k_asm)
  | true =>
    obtain ⟨hj0, hj1, hlen, hT⟩ := hI
    simp only at hj0 hj1 hlen hT
    have hvs := DatAll.length hD
    rw [List.length_map] at hvs
    simp only at hvs
    refine lp_turn ?hE ?_
    case hE => passes_own
    k_steps
    · exact ret.1 (hT _ (.none (by with_reducible assumption))) _ _ (by k_asm) (cb_drop (by k_asm) (by walk_at "SUB"))
    · (with_reducible rename News _ _ _ _ => hN)
      rw [List.push_toArray] at hN
      have l := (show _ ∧ fl < _ ∧ AllLt _ (tl ++ news) from by with_reducible assumption)
      refine IH ((fieldF x j).2.1 + 1, acc ++ [(y9, (fieldF x j).2.2)], decide ((fieldF x j).2.1 < x.length)) _ ?g1 ⟨_, _, _, _, fl, _, _, _ :: tl, rfl, ?g2, Fr.toU (by k_asm) ⟨rfl, rfl, rfl, rfl, trivial⟩, cb_drop hN (by walk_at "SUBO"), ?g6, ?g7, ?g8⟩
      case g1 => simp only [decide_eq_true_eq, if_true]; split <;> omega
      case g2 =>
        by_cases hlt : (fieldF x j).2.1 < x.length
        · simp only [ToldI, hlt, decide_true, if_true]
          refine ⟨by omega, by omega, by rw [List.length_append, List.length_singleton]; omega, fun r hr => hT r (.more hy9 hlt hr)⟩
        · simp only [ToldI, hlt, decide_false, Bool.false_eq_true, if_false]
          exact ⟨by rw [List.length_append, List.length_singleton]; omega, hT _ (.last hy9 hlt)⟩
      case g6 =>
        rw [List.map_append]
        exact DatAll.append (hD.mono fun p hp => .tail _ hp) (.one (.tuple (.head _) (.cons (.str _ _) (.cons (.bool _) .nil))))
      case g7 => exact List.forall_mem_cons.mpr ⟨Nat.ne_of_gt l.2.1, hoff⟩
      case g8 =>
        intro q hq p hp
        rcases List.mem_cons.mp hp with rfl | hp
        · exact (show q.1 < fl from hord q hq _ (.head _))
        · rcases List.mem_cons.mp hp with rfl | hp
          · exact ktn_ltOf l.2.2 q (List.mem_append.mpr (.inr hq))
          · exact hord q hq p (.tail _ hp)
end Mine
end
section
namespace Mine
theorem kw_W4_0 : True := by
  k_with_none
  w_top off
  k_with "exec Assign" => walk_at "FOLD"
  k_with "exec Return some" => walk_at "FOLD"
  k_with "exec If" => walk_at "FOLD"
  k_with "exec AugAssign" => walk_at "FOLD"
  k_with "exec Expr" => walk_at "FOLD"
  k_with "eval Tuple" => walk_at "FOLD"
  k_with "eval List" => walk_at "FOLD"
  k_with "eval BinOp" => walk_at "FOLD"
  k_with "eval Call" => walk_at "FOLD"
  k_with "eval Subscript" => walk_at "FOLD"
  k_with "eval IfExp" => walk_at "FOLD"
  k_with "isTrue BoolOp" => walk_at "FOLD"
  k_with "isTrue Compare" => walk_at "FOLD"
  k_with "eval Call Attribute" => walk_at "FOLD"
  k_with "FOLD" => ((fail_if_success (fail_if_success k_fold)); refine (let qk := _; let ek := _; (?_ : wpAny _ _ _ qk ek _)))
  k_with "execs cons" => (refine wp_tk s ?_; intro _)
  k_with "ENTER" => ((case k6 => k_is); (case k7 => k_is); (case k8 => ktr_room); (case k9 => exact BindsTo.of_eq rfl); (case c5 => decide); (case kB => exact locs rfl); (case c2 => exact rfl); (case c3 => exact rfl); (case c4 => exact rfl); k_whole)
  k_with "LpPost" => (dsimp only [LpPost])
  k_with "USE" => ((case k1 => k_asm); (case k2 => k_asm); (case k3 => k_asm); (case k4 => k_asm); (case k5 => k_asm); (case kK => first | exact rfl | assumption); (case kd => first | exact dp_lt (by with_reducible assumption) (by decide) | ktr_room); (case ku => first | exact un_lt (by with_reducible assumption) (by decide) | ktr_units))
  k_with "SIDE" => first | assumption | omega
  k_with "call builtin:str.find" => (k_here; refine find_r (by decide +kernel) (by omega) ?_; intro _)
  k_with "SUB" => ((try simp only [List.cons_append, List.nil_append]); repeat (first | with_reducible exact sub_refl | with_reducible exact sub_nil | ((with_reducible refine sub_cons ?hm ?_); (case hm => k_mem)) | with_reducible refine sub_tail ?_ | with_reducible refine sub_apR ?_))
  k_with "exec While" => (refine lp_start ?_)
  k_with "subscriptTail Name Name str int" => (k_here; first | refine item_c' (by with_reducible assumption) (by omega) (by omega) (by with_reducible assumption) ?_ | (refine item_c (by omega) (by omega) (by with_reducible assumption) ?_; intro c9 hc9))
  trivial
theorem st_lt {c d : Nat} {y : PySem.Str} (hy : Lx y = [d]) : ((st [c]).cps.toList < y.cps.toList) ↔ c < d := by
  show Lx (st [c]) < Lx y ↔ _
  rw [hy, Lx_st]; simp [List.cons_lt_cons_iff]
theorem lt_st {c d : Nat} {y : PySem.Str} (hy : Lx y = [d]) : (y.cps.toList < (st [c]).cps.toList) ↔ d < c := by
  show Lx y < Lx (st [c]) ↔ _
  rw [hy, Lx_st]; simp [List.cons_lt_cons_iff]
theorem lx0 : Lx (PySem.Str.ofString "0") = [48] := by decide +kernel
theorem lx9 : Lx (PySem.Str.ofString "9") = [57] := by decide +kernel
inductive RunR (x : PySem.Str) (b : Int) : Int → Int → Int × Int × Int → Prop
  | stop {f j} : (¬ ∃ c, (Lx x)[j.toNat]? = some c ∧ 48 ≤ c ∧ c ≤ 57 ∧ j - b < 300) → RunR x b f j (f, j - b, j)
  | go {f j} {c : Nat} {r} : (Lx x)[j.toNat]? = some c → 48 ≤ c → c ≤ 57 → j - b < 300 → RunR x b (10 * f + (c : Int) - 48) (j + 1) r → RunR x b f j r
inductive RuI (x : PySem.Str) (i : Int) (t : Tok) (g' : Heap) (L' : Addr) (news : Ledger) (s : Shared) (c : Int × Int) (s1 : Shared) : Prop
  | mk (h : Heap) (tk : Nat) (u u2 u3 : Tok) (m : PySem.Str → Option Value) (h0 : s1 = ⟨h, s.gens, s.drawn, tk, s.os⟩) (h1 : i ≤ c.2) (h2 : c.2 ≤ x.length) (h3 : (∀ r, RunR x i c.1 c.2 r → RunR x i 0 i r)) (h4 : Fr g' L' h (fmu [(Str.ofString "at", .int c.2 u), (Str.ofString "found", .int c.1 u2), (Str.ofString "begin", .int i u3), (Str.ofString "text", .str x t)] m)) (h5 : News g' L' h news) : RuI x i t g' L' news s c s1
theorem run_spec (w : World) (news : Ledger) (x : PySem.Str) (i : Int) (t t2 : Tok) (hx : x.length ≤ 1000) (h0 : 0 ≤ i) (hi : i ≤ x.length) :
   Does w 170 1 [.str x t, .int i t2] news (fun K => ∀ r, RunR x i 0 i r → i ≤ r.2.2 → r.2.2 ≤ x.length → r.2.1 = r.2.2 - i → ∀ a t1 t2 t3, (∀ p ∈ news, p.1 < a) → K (.ref a) ((a, tupO [.int r.1 t1, .int r.2.1 t2, .int r.2.2 t3]) :: news)) := by
  unfold Does
  intro mean mg mb dp un gd cn cs a ccd cl outer A₀ base h₀ L m s Q E B F X N T hk hd hu ret
  refine wpAny_call ?_
  k_dflt (refine' code_def (binds := [(Str.ofString "text", .str x t), (Str.ofString "at", .int i t2)]) B F X N T rfl rfl hk ?k6 ?k7 ?k8 ?k9 ?kB ?_ ?c2 ?c3 ?c4 ?c5)
  walk_at "ENTER"
  intro g' L' h' FG' F' N' B' X' T'
  k_fold
  k_steps
  refine lp_ind (RuI x i t g' L' news s) (fun c => x.length - c.2.toNat) ?_ (0, i) _
      ⟨_, _, _, _, _, _, rfl, by simp, by simp [hi], fun r h => h, Fr.toU (by k_asm) ⟨rfl, rfl, rfl, rfl, trivial⟩, cb_drop (by k_asm) (by walk_at "SUB")⟩
  rintro ⟨f, j⟩ _ ⟨h, tk, u, u2, u3, m1, rfl, hj, hj1, hR, F', N'⟩ IH
  simp only at hj hj1 hR F' ⊢
  refine lp_turn ?hE ?_
  case hE => passes_own
  k_steps
  · exact ret _ (hR _ (.stop (by rintro ⟨c, h1, h2, h3, h4⟩; rw [hc9] at h1; cases h1; have := (st_lt lx0).mp (by with_reducible assumption); omega))) hj hj1 rfl _ _ _ _ (by with_reducible assumption) _ _ (by k_asm) (by k_asm)
  · exact ret _ (hR _ (.stop (by rintro ⟨c, h1, h2, h3, h4⟩; rw [hc9] at h1; cases h1; have := (lt_st lx9).mp (by with_reducible assumption); omega))) hj hj1 rfl _ _ _ _ (by with_reducible assumption) _ _ (by k_asm) (by k_asm)
  · have a1 := (not_congr (st_lt lx0)).mp (by with_reducible assumption)
    have a2 := (not_congr (lt_st lx9)).mp (by with_reducible assumption)
    exact IH (10 * f + (c9 : Int) - 48, j + 1) _ (by simp only; omega) ⟨_, _, _, _, _, _, rfl, by simp only; omega, by simp only; omega, fun r hr => hR r (.go hc9 (by omega) (by omega) (by omega) hr), Fr.toU (by k_asm) ⟨rfl, rfl, rfl, rfl, trivial⟩, by k_asm⟩
  · exact ret _ (hR _ (.stop (by rintro ⟨c, h1, h2, h3, h4⟩; omega))) hj hj1 rfl _ _ _ _ (by with_reducible assumption) _ _ (by k_asm) (by k_asm)
  · exact ret _ (hR _ (.stop (by rintro ⟨c, h1, h2, h3, h4⟩; have := (List.getElem?_eq_some_iff.mp h1).1; rw [len_Lx] at this; omega))) hj hj1 rfl _ _ _ _ (by with_reducible assumption) _ _ (by k_asm) (by k_asm)
end Mine
end
section
namespace Mine
theorem kw_W5_0 : True := by
  k_with_none
  w_top off
  k_with "exec Assign" => walk_at "FOLD"
  k_with "exec Return some" => walk_at "FOLD"
  k_with "exec If" => walk_at "FOLD"
  k_with "exec AugAssign" => walk_at "FOLD"
  k_with "exec Expr" => walk_at "FOLD"
  k_with "eval Tuple" => walk_at "FOLD"
  k_with "eval List" => walk_at "FOLD"
  k_with "eval BinOp" => walk_at "FOLD"
  k_with "eval Call" => walk_at "FOLD"
  k_with "eval Subscript" => walk_at "FOLD"
  k_with "eval IfExp" => walk_at "FOLD"
  k_with "isTrue BoolOp" => walk_at "FOLD"
  k_with "isTrue Compare" => walk_at "FOLD"
  k_with "eval Call Attribute" => walk_at "FOLD"
  k_with "FOLD" => ((fail_if_success (fail_if_success k_fold)); refine (let qk := _; let ek := _; (?_ : wpAny _ _ _ qk ek _)))
  k_with "execs cons" => (refine wp_tk s ?_; intro _)
  k_with "ENTER" => ((case k6 => k_is); (case k7 => k_is); (case k8 => ktr_room); (case k9 => exact BindsTo.of_eq rfl); (case c5 => decide); (case kB => exact locs rfl); (case c2 => exact rfl); (case c3 => exact rfl); (case c4 => exact rfl); k_whole)
  k_with "LpPost" => (dsimp only [LpPost])
  k_with "USE" => ((case k1 => k_asm); (case k2 => k_asm); (case k3 => k_asm); (case k4 => k_asm); (case k5 => k_asm); (case kK => first | exact rfl | assumption); (case kd => first | exact dp_lt (by with_reducible assumption) (by decide) | ktr_room); (case ku => first | exact un_lt (by with_reducible assumption) (by decide) | ktr_units))
  k_with "SIDE" => first | assumption | omega | (split <;> omega)
  k_with "call builtin:str.find" => (k_here; refine find_r (by decide +kernel) (by omega) ?_; intro _)
  k_with "SUB" => ((try simp only [List.cons_append, List.nil_append]); repeat (first | with_reducible exact sub_refl | with_reducible exact sub_nil | ((with_reducible refine sub_cons ?hm ?_); (case hm => k_mem)) | with_reducible refine sub_tail ?_ | with_reducible refine sub_apR ?_))
  k_with "exec While" => (refine lp_start ?_)
  k_with "WhlIf" => (refine whlIf_dec ?_ ?_ <;> intro _ <;> try (exfalso; omega))
  k_with "call builtin:abs" => (k_here; refine abs_z ?_; intro z9 _ _ _ z91 z92)
  k_with "binaryOp Mod int int" => (k_here; refine mod_p (by omega) ?_)
  k_with "binaryOp FloorDiv int int" => (k_here; refine div_p (by omega) (by omega) ?_)
  trivial
noncomputable def figF (n : Int) : Int := if n < 10 then 1 else 2
theorem fig_spec (w : World) (news : Ledger) (n : Int) (t : Tok) (h0 : 0 ≤ n) (hn : n ≤ 99) :
   Does w 51 1 [.int n t] news (fun K => ∀ t, 1 ≤ figF n → figF n ≤ 2 → K (.int (figF n) t) news) := by
  unfold Does
  intro mean mg mb dp un gd cn cs a ccd cl outer A₀ base h₀ L m s Q E B F X N T hk hd hu ret
  refine wpAny_call ?_
  k_dflt (refine' code_def (binds := [(Str.ofString "number", .int n t)]) B F X N T rfl rfl hk ?k6 ?k7 ?k8 ?k9 ?kB ?_ ?c2 ?c3 ?c4 ?c5)
  walk_at "ENTER"
  intro g' L' h' FG' F' N' B' X' T'
  k_fold
  k_steps
  refine lp_turn ?hE ?_
  case hE => passes_own
  k_steps
  · refine lp_turn ?hE ?_
    case hE => passes_own
    k_steps
    have e : figF n = 1 + 1 := by unfold figF; split <;> omega
    rw [e] at ret
    exact ret _ (by omega) (by omega) _ _ (by k_asm) (cb_drop (by k_asm) (by walk_at "SUB"))
  · have e : figF n = 1 := by unfold figF; split <;> omega
    rw [e] at ret
    exact ret _ (by omega) (by omega) _ _ (by k_asm) (cb_drop (by k_asm) (by walk_at "SUB"))
theorem kw_W5_1 : True := by
  k_with "call ref" => (k_here; k_dflt (refine' Does.use (fig_spec _ _ _ _ ?s1 ?s2) ?k1 ?k2 ?k3 ?k4 ?k5 ?kK ?kd ?ku ?_); walk_at "USE"; (case s1 => walk_at "SIDE"); (case s2 => walk_at "SIDE"); intro t9 _ _ h9 tk9 F9 N9; (try dsimp only); (try k_fold))
  trivial
noncomputable def bareF (c : Int) : Int × Int := if c % 10 = 0 then (c / 10, 1) else (c, 0)
theorem made_spec (w : World) (news : Ledger) (c : Int) (t t2 t3 : Tok) (h0 : -99 ≤ c) (hn : c ≤ 99) (hc : c ≠ 0) :
   Does w 65 2 [.int c t, .int 0 t2, .int 9 t3] news (fun K => ∀ a t1 t2, (∀ p ∈ news, p.1 < a) → K (.ref a) ((a, tupO [.int (bareF c).1 t1, .int (bareF c).2 t2]) :: news)) := by
  unfold Does
  intro mean mg mb dp un gd cn cs a ccd cl outer A₀ base h₀ L m s Q E B F X N T hk hd hu ret
  refine wpAny_call ?_
  k_dflt (refine' code_def (binds := [(Str.ofString "coefficient", .int c t), (Str.ofString "exponent", .int 0 t2), (Str.ofString "digits", .int 9 t3)]) B F X N T rfl rfl hk ?k6 ?k7 ?k8 ?k9 ?kB ?_ ?c2 ?c3 ?c4 ?c5)
  walk_at "ENTER"
  intro g' L' h' FG' F' N' B' X' T'
  k_fold
  k_steps
  · exfalso; omega
  refine lp_turn ?hE ?_
  case hE => passes_own
  k_steps
  · refine lp_turn ?hE ?_
    case hE => passes_own
    k_steps
    · have e : bareF c = (-(z9 / 10), 0 + 1) := by unfold bareF; rw [if_pos (by omega)]; exact Prod.ext (by simp only; omega) rfl
      rw [e] at ret
      exact ret _ _ _ (ktn_ltOf (show _ ∧ AllLt _ news from by with_reducible assumption).2) _ _ (by k_asm) (cb_drop (by k_asm) (by walk_at "SUB"))
    · have e : bareF c = (z9 / 10, 0 + 1) := by unfold bareF; rw [if_pos (by omega)]; exact Prod.ext (by simp only; omega) rfl
      rw [e] at ret
      exact ret _ _ _ (ktn_ltOf (show _ ∧ AllLt _ news from by with_reducible assumption).2) _ _ (by k_asm) (cb_drop (by k_asm) (by walk_at "SUB"))
  · have e : bareF c = (-z9, 0) := by unfold bareF; rw [if_neg (by omega)]; exact Prod.ext (by simp only; omega) rfl
    rw [e] at ret
    exact ret _ _ _ (by with_reducible assumption) _ _ (by k_asm) (by k_asm)
  · have e : bareF c = (z9, 0) := by unfold bareF; rw [if_neg (by omega)]; exact Prod.ext (by simp only; omega) rfl
    rw [e] at ret
    exact ret _ _ _ (by with_reducible assumption) _ _ (by k_asm) (by k_asm)
theorem kw_W5_2 : True := by
  k_with "call ref" => (k_here; k_dflt (refine' Does.use (made_spec _ _ _ _ _ _ ?s1 ?s2 ?s3) ?k1 ?k2 ?k3 ?k4 ?k5 ?kK ?kd ?ku ?_); walk_at "USE"; (case s1 => walk_at "SIDE"); (case s2 => walk_at "SIDE"); (case s3 => walk_at "SIDE"); intro a9 t9 u9 l9 h9 tk9 F9 N9; (try dsimp only); (try k_fold))
  trivial
theorem tolddec_spec (w : World) (news : Ledger) (c : Int) (t t2 t3 : Tok) (h0 : -99 ≤ c) (hn : c ≤ 99) :
   Does w 191 3 [.int c t, .int 0 t2, .int 9 t3] news (fun K => (c = 0 → K (.ref 163) news) ∧ (c ≠ 0 → ∀ a t1 t2, (∀ p ∈ news, p.1 < a) → K (.ref a) ((a, tupO [.int (bareF c).1 t1, .int (bareF c).2 t2]) :: news))) := by
  unfold Does
  intro mean mg mb dp un gd cn cs a ccd cl outer A₀ base h₀ L m s Q E B F X N T hk hd hu ret
  refine wpAny_call ?_
  k_dflt (refine' code_def (binds := [(Str.ofString "coefficient", .int c t), (Str.ofString "exponent", .int 0 t2), (Str.ofString "digits", .int 9 t3)]) B F X N T rfl rfl hk ?k6 ?k7 ?k8 ?k9 ?kB ?_ ?c2 ?c3 ?c4 ?c5)
  walk_at "ENTER"
  intro g' L' h' FG' F' N' B' X' T'
  k_fold
  k_steps
  · exact ret.1 (by with_reducible assumption) _ _ (by k_asm) (by k_asm)
  · exact ret.2 (by with_reducible assumption) _ _ _ (by with_reducible assumption) _ _ (by k_asm) (by k_asm)
end Mine
end
section
namespace Mine
theorem kw_W6_0 : True := by
  k_with_none
  w_top off
  k_with "exec Assign" => walk_at "FOLD"
  k_with "exec Return some" => walk_at "FOLD"
  k_with "exec If" => walk_at "FOLD"
  k_with "exec AugAssign" => walk_at "FOLD"
  k_with "exec Expr" => walk_at "FOLD"
  k_with "eval Tuple" => walk_at "FOLD"
  k_with "eval List" => walk_at "FOLD"
  k_with "eval BinOp" => walk_at "FOLD"
  k_with "eval Call" => walk_at "FOLD"
  k_with "eval Subscript" => walk_at "FOLD"
  k_with "eval IfExp" => walk_at "FOLD"
  k_with "isTrue BoolOp" => walk_at "FOLD"
  k_with "isTrue Compare" => walk_at "FOLD"
  k_with "eval Call Attribute" => walk_at "FOLD"
  k_with "FOLD" => ((fail_if_success (fail_if_success k_fold)); refine (let qk := _; let ek := _; (?_ : wpAny _ _ _ qk ek _)))
  k_with "execs cons" => (refine wp_tk s ?_; intro _)
  k_with "ENTER" => ((case k6 => k_is); (case k7 => k_is); (case k8 => ktr_room); (case k9 => exact BindsTo.of_eq rfl); (case c5 => decide); (case kB => exact locs rfl); (case c2 => exact rfl); (case c3 => exact rfl); (case c4 => exact rfl); k_whole)
  k_with "LpPost" => (dsimp only [LpPost])
  k_with "USE" => ((case k1 => k_asm); (case k2 => k_asm); (case k3 => k_asm); (case k4 => k_asm); (case k5 => k_asm); (case kK => first | exact rfl | assumption); (case kd => first | exact dp_lt (by with_reducible assumption) (by decide) | ktr_room); (case ku => first | exact un_lt (by with_reducible assumption) (by decide) | ktr_units))
  k_with "SIDE" => first | assumption | omega | (split <;> omega)
  k_with "call builtin:str.find" => (k_here; refine find_r (by decide +kernel) (by omega) ?_; intro _)
  k_with "SUB" => ((try simp only [List.cons_append, List.nil_append]); repeat (first | with_reducible exact sub_refl | with_reducible exact sub_nil | ((with_reducible refine sub_cons ?hm ?_); (case hm => k_mem)) | with_reducible refine sub_tail ?_ | with_reducible refine sub_apR ?_))
  k_with "WhlIf" => (refine whlIf_dec ?_ ?_ <;> intro _ <;> try (exfalso; omega))
  k_with "call builtin:abs" => (k_here; refine abs_z ?_; intro z9 _ _ _ z91 z92)
  k_with "binaryOp Mod int int" => (k_here; refine mod_p (by omega) ?_)
  k_with "binaryOp FloorDiv int int" => (k_here; refine div_p (by omega) (by omega) ?_)
  k_with "subscriptTail Name Name str int" => (k_here; first | refine item_c' (by with_reducible assumption) (by omega) (by omega) (by with_reducible assumption) ?_ | (refine item_c (by omega) (by omega) (by with_reducible assumption) ?_; intro c9 hc9))
  trivial
theorem e_absurd {x : PySem.Str} {i c : Nat} (hE : ∀ c ∈ Lx x, c ≠ 69 ∧ c ≠ 101 ∧ c ≠ 68 ∧ c ≠ 100) (hc : (Lx x)[i]? = some c) (h : (Builtin.Str.occurrences (PySem.Str.ofString "EeDd") (st [c]) 0 (PySem.Str.ofString "EeDd").length 1).isEmpty = false) : False := by
  have e : Lx (PySem.Str.ofString "EeDd") = [69, 101, 68, 100] := by decide +kernel
  rw [in_one, e] at h
  have q := hE c (List.mem_of_getElem? hc)
  have : c ∈ [69, 101, 68, 100] := by
    by_cases hm : c ∈ [69, 101, 68, 100]
    · exact hm
    · rw [decide_eq_false hm] at h; cases h
  simp only [List.mem_cons, List.not_mem_nil, or_false] at this
  omega
theorem exp_spec (w : World) (news : Ledger) (x : PySem.Str) (i : Int) (t t2 : Tok) (hx : x.length ≤ 1000) (h0 : 0 ≤ i) (hi : i ≤ x.length) (hE : ∀ c ∈ Lx x, c ≠ 69 ∧ c ≠ 101 ∧ c ≠ 68 ∧ c ≠ 100) :
   Does w 177 1 [.str x t, .int i t2] news (fun K => ∀ a t1 t2, (∀ p ∈ news, p.1 < a) → K (.ref a) ((a, tupO [.int 0 t1, .int i t2]) :: news)) := by
  unfold Does
  intro mean mg mb dp un gd cn cs a ccd cl outer A₀ base h₀ L m s Q E B F X N T hk hd hu ret
  refine wpAny_call ?_
  k_dflt (refine' code_def (binds := [(Str.ofString "text", .str x t), (Str.ofString "at", .int i t2)]) B F X N T rfl rfl hk ?k6 ?k7 ?k8 ?k9 ?kB ?_ ?c2 ?c3 ?c4 ?c5)
  walk_at "ENTER"
  intro g' L' h' FG' F' N' B' X' T'
  k_fold
  k_steps
  · exact ret _ _ _ (by with_reducible assumption) _ _ (by k_asm) (by k_asm)
  · exact ret _ _ _ (by with_reducible assumption) _ _ (by k_asm) (by k_asm)
  all_goals (exfalso; exact e_absurd hE hc9 (by with_reducible assumption))
theorem kw_W6_1 : True := by
  k_with "call ref" => (k_here; k_dflt (refine' Does.use (exp_spec _ _ _ _ _ _ ?s1 ?s2 ?s3 ?s4) ?k1 ?k2 ?k3 ?k4 ?k5 ?kK ?kd ?ku ?_); walk_at "USE"; (case s1 => walk_at "SIDE"); (case s2 => walk_at "SIDE"); (case s3 => walk_at "SIDE"); (case s4 => walk_at "SIDE"); intro a9 t9 u9 l9 h9 tk9 F9 N9; (try (k_lt l9)); (try dsimp only); (try k_fold))
  k_with "call ref" => (k_here; k_dflt (refine' Does.use (run_spec _ _ _ _ _ _ ?s1 ?s2 ?s3) ?k1 ?k2 ?k3 ?k4 ?k5 ?kK ?kd ?ku ?_); walk_at "USE"; (case s1 => walk_at "SIDE"); (case s2 => walk_at "SIDE"); (case s3 => walk_at "SIDE"); intro r9 hr9 _ _ _ a9 t9 u9 v9 l9 h9 tk9 F9 N9; (have hv9 := hv _ _ (by omega) hr9); (try (k_lt l9)); (try dsimp only); (try k_fold))
  k_with "exec While" => (refine lp_start ?_)
  k_with "call ref" => (k_here; k_dflt (refine' Does.use (tolddec_spec _ _ _ _ _ _ ?s1 ?s2) ?k1 ?k2 ?k3 ?k4 ?k5 ?kK ?kd ?ku ?_); walk_at "USE"; (case s1 => walk_at "SIDE"); (case s2 => walk_at "SIDE"); refine And.intro (fun hz9 h9 tk9 F9 N9 => ?_) (fun hn9 a9 t9 u9 ln9 h9 tk9 F9 N9 => ?_); (all_goals ((try dsimp only); (try k_fold))))
  trivial
theorem dot_false {x : PySem.Str} {i : Int} (hP : ∀ c ∈ Lx x, c ≠ 46) (h0 : 0 ≤ i) : (Txt.slice x (some i) (some (i + 1)) == PySem.Str.ofString ".") = false := by
  refine beq_false_of_ne fun e => ?_
  have e1 : Lx (PySem.Str.ofString ".") = [46] := by decide +kernel
  have e2 := congrArg Lx e
  rw [slice_ss_eq h0 (by omega), e1, Lx_st] at e2
  have : 46 ∈ ((Lx x).drop i.toNat).take ((i + 1).toNat - i.toNat) := by rw [e2]; simp
  exact hP 46 (List.mem_of_mem_drop (List.mem_of_mem_take this)) rfl
theorem ite_f {b : Bool} {T F : Prop} (h : b = false) (f : F) : if b = true then T else F := by rw [if_neg (by rw [h]; exact Bool.false_ne_true)]; exact f
theorem kw_W6_2 : True := by
  k_with "ite" => (k_here; refine ite_f (dot_false (by with_reducible assumption) (by omega)) ?_)
  trivial
theorem blank_no {x : PySem.Str} {c : Nat} (hB : ∀ c, (Lx x)[0]? = some c → isBlank c = false) (hc : (Lx x)[0]? = some c) (h : (Builtin.Str.occurrences (PySem.Str.ofString " \t") (st [c]) 0 (PySem.Str.ofString " \t").length 1).isEmpty = false) : False := by
  rw [in_one, blank_at, hB c hc] at h; cases h
noncomputable def sgB (x : PySem.Str) : Bool := [PySem.Str.ofString "+", PySem.Str.ofString "-"].any fun y => y == Txt.slice x (some 0) (some (0 + 1))
noncomputable def ngB (x : PySem.Str) : Bool := Txt.slice x (some 0) (some (0 + 1)) == PySem.Str.ofString "-"
noncomputable def j0 (x : PySem.Str) : Int := if sgB x then 0 + 1 else 0
noncomputable def cF (x : PySem.Str) (f : Int) : Int := if ngB x then 0 - f else f
noncomputable def NumV (c : Int) (v : Value) (tl : Ledger) : Prop := (c = 0 ∧ v = .ref 163 ∧ tl = []) ∨ (c ≠ 0 ∧ ∃ b t1 t2, v = .ref b ∧ tl = [(b, tupO [.int (bareF c).1 t1, .int (bareF c).2 t2])])
section
variable {x : PySem.Str} {f : Int}
theorem j0_pos (h : ([PySem.Str.ofString "+", PySem.Str.ofString "-"].any fun y => y == Txt.slice x (some 0) (some (0 + 1))) = true) : j0 x = 0 + 1 := if_pos h
theorem j0_neg (h : ([PySem.Str.ofString "+", PySem.Str.ofString "-"].any fun y => y == Txt.slice x (some 0) (some (0 + 1))) = false) : j0 x = 0 := if_neg (by rw [sgB, h]; exact Bool.false_ne_true)
theorem cF_pos (h : (Txt.slice x (some 0) (some (0 + 1)) == PySem.Str.ofString "-") = true) : cF x f = 0 - f := if_pos h
theorem cF_neg (h : (Txt.slice x (some 0) (some (0 + 1)) == PySem.Str.ofString "-") = false) : cF x f = f := if_neg (by rw [ngB, h]; exact Bool.false_ne_true)
theorem sg_empty (h : ([PySem.Str.ofString "+", PySem.Str.ofString "-"].any fun y => y == Txt.slice x (some 0) (some (0 + 1))) = true) (h0 : ¬ 0 < (x.length : Int)) : False := by
  have hx : x.length = 0 := by omega
  have e : Lx x = [] := List.eq_nil_of_length_eq_zero (by rw [len_Lx, hx])
  rw [slice_ss_eq (by decide) (by decide), e] at h
  revert h; decide +kernel
end
theorem cF_pos' {x : PySem.Str} {f : Int} (h : ngB x = true) : cF x f = 0 - f := if_pos h
theorem cF_neg' {x : PySem.Str} {f : Int} (h : ngB x = false) : cF x f = f := if_neg (by rw [h]; exact Bool.false_ne_true)
theorem j0_b (h0 : 0 ≤ x.length) : 0 ≤ j0 x := by unfold j0; split <;> decide
theorem j0_l {x : PySem.Str} : j0 x ≤ (x.length : Int) := by
  unfold j0
  by_cases h : sgB x = true
  · rw [if_pos h]
    have : ¬ ¬ 0 < (x.length : Int) := fun q => sg_empty h q
    omega
  · rw [if_neg h]; omega
theorem dof_spec (w : World) (news : Ledger) (x : PySem.Str) (t t2 : Tok) (hx : x.length ≤ 1000) (hB : ∀ c, (Lx x)[0]? = some c → isBlank c = false) (hE : ∀ c ∈ Lx x, c ≠ 69 ∧ c ≠ 101 ∧ c ≠ 68 ∧ c ≠ 100) (hP : ∀ c ∈ Lx x, c ≠ 46)
   (hv : ∀ j r, 0 ≤ j → RunR x j 0 j r → 0 ≤ r.1 ∧ r.1 ≤ 99) :
   Does w 184 4 [.str x t, .int 9 t2] news (fun K => ∀ r, RunR x (j0 x) 0 (j0 x) r → (r.2.1 = 0 → K .none news) ∧ (r.2.1 ≠ 0 → ∀ v a t tl, NumV (cF x r.1) v tl → (∀ p ∈ tl ++ news, p.1 < a) → (∀ q ∈ news, ∀ p ∈ tl, q.1 < p.1) → K (.ref a) ((a, tupO [v, .int r.2.2 t]) :: (tl ++ news)))) := by
  unfold Does
  intro mean mg mb dp un gd cn cs a ccd cl outer A₀ base h₀ L m s Q E B F X N T hk hd hu ret
  refine wpAny_call ?_
  k_dflt (refine' code_def (binds := [(Str.ofString "text", .str x t), (Str.ofString "digits", .int 9 t2)]) B F X N T rfl rfl hk ?k6 ?k7 ?k8 ?k9 ?kB ?_ ?c2 ?c3 ?c4 ?c5)
  walk_at "ENTER"
  intro g' L' h' FG' F' N' B' X' T'
  k_fold
  k_with "exec While" => (refine hold ?_)
  k_steps
  unfold Hold
  refine wp_join (Jn g' L' s.gens s.drawn s.os (fun m' => ∃ tk, Has m' [(Str.ofString "text", .str x t), (Str.ofString "digits", .int 9 t2), (Str.ofString "at", .int 0 tk)]) news) ?_ ?_
  · refine lp_start ?_
    refine lp_turn ?hE ?_
    case hE => passes_own
    k_steps
    all_goals first
      | (exfalso; exact blank_no hB hc9 (by with_reducible assumption))
      | ((with_reducible rename Fr _ _ _ _ => F9); (with_reducible rename News _ _ _ _ => N9); exact Jn.mk F9 N9 ⟨_, rfl, rfl, rfl, trivial⟩)
  rintro f s' ⟨rfl, m', h8, tk8, ⟨tk, hm⟩, F8, N8, rfl⟩
  rw [show m' = fmu _ m' from fmu_eq hm] at F8
  clear hm
  dsimp only
  k_with "exec If" => (refine hold ?_)
  k_steps
  unfold Hold
  refine wp_join (Jn g' L' s.gens s.drawn s.os (fun m' => ∃ t3, Has m' [(Str.ofString "text", .str x t), (Str.ofString "digits", .int 9 t2), (Str.ofString "is_below", .bool (ngB x)), (Str.ofString "at", .int (j0 x) t3)]) news) ?_ ?_
  · k_with "exec If" => (refine wpAny_If ?_)
    k_steps
    · (with_reducible rename Fr _ _ _ _ => F9)
      (with_reducible rename News _ _ _ _ => N9)
      exact Jn.mk F9 (fun p hp => N9 p (.tail _ hp)) ⟨_, rfl, rfl, rfl, by rw [j0_pos (by with_reducible assumption)]; rfl, trivial⟩
    · (with_reducible rename Fr _ _ _ _ => F9)
      (with_reducible rename News _ _ _ _ => N9)
      exact Jn.mk F9 (fun p hp => N9 p (.tail _ hp)) ⟨_, rfl, rfl, rfl, by rw [j0_neg (by with_reducible assumption)]; rfl, trivial⟩
  rintro f s' ⟨rfl, m', h8, tk8, ⟨t3, hm⟩, F8, N8, rfl⟩
  rw [show m' = fmu _ m' from fmu_eq hm] at F8
  clear hm
  have hj0 := j0_b (x := x) (Nat.zero_le _)
  have hj1 := j0_l (x := x)
  dsimp only
  k_steps
  all_goals (have hr := hr9)
  all_goals first
    | (with_reducible show Q Value.none _; exact (ret _ hr).1 (by omega) _ _ (by k_asm) (cb_drop (by k_asm) (by walk_at "SUB")))
    | (have hq := hz9; have hz : cF x r9.1 = 0 := by first | (rw [cF_pos' (by with_reducible assumption)]; exact hq) | (rw [cF_neg' (by with_reducible assumption)]; exact hq)
       exact (ret _ hr).2 (by omega) _ _ _ [] (.inl ⟨hz, rfl, rfl⟩) (fun p hp => ktn_ltOf (show _ ∧ _ ∧ AllLt _ news from by with_reducible assumption).2.2 p hp) (fun _ _ _ h => nomatch h) _ _ (by k_asm) (cb_drop (by k_asm) (by walk_at "SUB")))
    | (have hq := hn9
       have hl := (show _ ∧ _ ∧ _ ∧ AllLt _ news from by with_reducible assumption)
       have hz : ∃ c, cF x r9.1 = c ∧ c ≠ 0 := by first | exact ⟨_, cF_pos' (by with_reducible assumption), hq⟩ | exact ⟨_, cF_neg' (by with_reducible assumption), hq⟩
       first | rw [← cF_pos' (f := r9.1) (by with_reducible assumption)] at * | rw [← cF_neg' (f := r9.1) (by with_reducible assumption)] at *
       exact (ret _ hr).2 (by omega) _ _ _ [_] (.inr ⟨hq, _, _, _, rfl, rfl⟩) (fun p hp => ktn_ltOf (show AllLt _ (_ :: news) from ⟨hl.1, hl.2.2.2⟩) p hp) (fun q hq p hp => by rw [List.mem_singleton.mp hp]; exact ln9 q (.tail _ (.tail _ hq))) _ _ (by k_asm) (cb_drop (by k_asm) (by walk_at "SUB")))
end Mine
end
section
namespace Mine
theorem kw_W7_0 : True := by
  k_with_none
  w_top off
  k_with "exec Assign" => walk_at "FOLD"
  k_with "exec Return some" => walk_at "FOLD"
  k_with "exec If" => walk_at "FOLD"
  k_with "exec AugAssign" => walk_at "FOLD"
  k_with "exec Expr" => walk_at "FOLD"
  k_with "eval Tuple" => walk_at "FOLD"
  k_with "eval List" => walk_at "FOLD"
  k_with "eval BinOp" => walk_at "FOLD"
  k_with "eval Call" => walk_at "FOLD"
  k_with "eval Subscript" => walk_at "FOLD"
  k_with "eval IfExp" => walk_at "FOLD"
  k_with "isTrue BoolOp" => walk_at "FOLD"
  k_with "isTrue Compare" => walk_at "FOLD"
  k_with "eval Call Attribute" => walk_at "FOLD"
  k_with "FOLD" => ((fail_if_success (fail_if_success k_fold)); refine (let qk := _; let ek := _; (?_ : wpAny _ _ _ qk ek _)))
  k_with "execs cons" => (refine wp_tk s ?_; intro _)
  k_with "ENTER" => ((case k6 => k_is); (case k7 => k_is); (case k8 => ktr_room); (case k9 => exact BindsTo.of_eq rfl); (case c5 => decide); (case kB => exact locs rfl); (case c2 => exact rfl); (case c3 => exact rfl); (case c4 => exact rfl); k_whole)
  k_with "LpPost" => (dsimp only [LpPost])
  k_with "USE" => ((case k1 => k_asm); (case k2 => k_asm); (case k3 => k_asm); (case k4 => k_asm); (case k5 => k_asm); (case kK => first | exact rfl | assumption); (case kd => first | exact dp_lt (by with_reducible assumption) (by decide) | ktr_room); (case ku => first | exact un_lt (by with_reducible assumption) (by decide) | ktr_units))
  k_with "SIDE" => first | assumption | omega | (split <;> omega)
  k_with "call builtin:str.find" => (k_here; refine find_r (by decide +kernel) (by omega) ?_; intro _)
  k_with "SUB" => ((try simp only [List.cons_append, List.nil_append]); repeat (first | with_reducible exact sub_refl | with_reducible exact sub_nil | ((with_reducible refine sub_cons ?hm ?_); (case hm => k_mem)) | with_reducible refine sub_tail ?_ | with_reducible refine sub_apR ?_))
  k_with "WhlIf" => (refine whlIf_dec ?_ ?_ <;> intro _ <;> try (exfalso; omega))
  k_with "call builtin:abs" => (k_here; refine abs_z ?_; intro z9 _ _ _ z91 z92)
  k_with "binaryOp Mod int int" => (k_here; refine mod_p (by omega) ?_)
  k_with "binaryOp FloorDiv int int" => (k_here; refine div_p (by omega) (by omega) ?_)
  trivial
/-- a text that number_by_text is asked of -/
structure NumT (x : PySem.Str) : Prop where
  len : x.length ≤ 1000
  blank : ∀ c, (Lx x)[0]? = some c → isBlank c = false
  exp : ∀ c ∈ Lx x, c ≠ 69 ∧ c ≠ 101 ∧ c ≠ 68 ∧ c ≠ 100
  dot : ∀ c ∈ Lx x, c ≠ 46
  val : ∀ j r, 0 ≤ j → RunR x j 0 j r → 0 ≤ r.1 ∧ r.1 ≤ 99
noncomputable def NumR (x : PySem.Str) (o : Option Int) : Prop := ∃ r, RunR x (j0 x) 0 (j0 x) r ∧
  ((o = none ∧ (r.2.1 = 0 ∨ r.2.2 ≠ (Txt.rstripChars x (PySem.Str.ofString " ")).length)) ∨ (o = some (cF x r.1) ∧ r.2.1 ≠ 0 ∧ r.2.2 = (Txt.rstripChars x (PySem.Str.ofString " ")).length))
theorem kw_W7_1 : True := by
  k_with "call ref" => (k_here; k_dflt (refine' Does.use (dof_spec _ _ _ _ _ (NumT.len ?s1) (NumT.blank ?s1) (NumT.exp ?s1) (NumT.dot ?s1) (NumT.val ?s1)) ?k1 ?k2 ?k3 ?k4 ?k5 ?kK ?kd ?ku ?_); walk_at "USE"; (case s1 => assumption); intro r9 hr9; refine And.intro (fun hz9 h9 tk9 F9 N9 => ?_) (fun hn9 v9 a9 t9 tl9 hv9 l9 o9 h9 tk9 F9 N9 => ?_); (all_goals ((try dsimp only); (try k_fold))))
  trivial
theorem nbt_spec (w : World) (news : Ledger) (x : PySem.Str) (t t2 : Tok) (hx : NumT x) :
   Does w 198 5 [.str x t, .int 9 t2] news (fun K => (NumR x none → K .none news) ∧ (∀ c, NumR x (some c) → ∀ v tl, NumV c v tl → (∀ q ∈ news, ∀ p ∈ tl, q.1 < p.1) → K v (tl ++ news))) := by
  unfold Does
  intro mean mg mb dp un gd cn cs a ccd cl outer A₀ base h₀ L m s Q E B F X N T hk hd hu ret
  have hl := hx.len
  refine wpAny_call ?_
  k_dflt (refine' code_def (binds := [(Str.ofString "text", .str x t), (Str.ofString "digits", .int 9 t2)]) B F X N T rfl rfl hk ?k6 ?k7 ?k8 ?k9 ?kB ?_ ?c2 ?c3 ?c4 ?c5)
  walk_at "ENTER"
  intro g' L' h' FG' F' N' B' X' T'
  k_fold
  k_steps
  · exact ret.1 ⟨_, hr9, .inl ⟨rfl, .inl hz9⟩⟩ _ _ (by k_asm) (by k_asm)
  · exact ret.2 _ ⟨_, hr9, .inr ⟨rfl, hn9, by with_reducible assumption⟩⟩ _ _ hv9 o9 _ _ (by k_asm) (cb_drop (by k_asm) (by walk_at "SUB"))
  · exact ret.1 ⟨_, hr9, .inl ⟨rfl, .inr (by with_reducible assumption)⟩⟩ _ _ (by k_asm) (cb_drop (by k_asm) (by walk_at "SUB"))
noncomputable def lamP (p : Pos) : Arguments := { posonlyargs := [], args := [{ arg := PySem.Str.ofString "text", annotation := none, pos := p }], vararg := none, kwonlyargs := [], kw_defaults := [], kwarg := none, defaults := [] }
noncomputable def lamB (p1 p2 p3 p4 : Pos) : PySem.Expr := .Call (.Name (PySem.Str.ofString "number_by_text") p1) [.Name (PySem.Str.ofString "text") p2, .Constant (.int 9) 0 p3] [] p4
noncomputable def lamS : Scope := { kind := ScopeKind.function, names := [(PySem.Str.ofString "text", NameKind.local), (PySem.Str.ofString "number_by_text", NameKind.globalImplicit)], isGenerator := false, isCoroutine := false }
structure LamIn (news : Ledger) (f : Addr) : Prop where
  mk ::
  ex : ∃ qual c' ctv pm p p1 p2 p3 p4 oc vs t0, (f, kla_obj (PySem.Str.ofString "<lambda>") qual (lamP p) (lamB p1 p2 p3 p4) lamS [] pm c' ctv) ∈ news ∧ (c', oc) ∈ news ∧ oc.data = .fields vs ∧ vs[1]? = some (.str qual t0)
theorem LamIn.mono {news news' : Ledger} {f : Addr} (h : LamIn news f) (s : ∀ p ∈ news, p ∈ news') : LamIn news' f := by
  obtain ⟨⟨qual, c', ctv, pm, p, p1, p2, p3, p4, oc, vs, t0, h1, h2, h3, h4⟩⟩ := h
  exact ⟨⟨qual, c', ctv, pm, p, p1, p2, p3, p4, oc, vs, t0, s _ h1, s _ h2, h3, h4⟩⟩
theorem kw_W7_2 : True := by
  k_with "call ref" => (k_here; k_dflt (refine' Does.use (nbt_spec _ _ _ _ _ ?s1) ?k1 ?k2 ?k3 ?k4 ?k5 ?kK ?kd ?ku ?_); walk_at "USE"; (case s1 => assumption); refine And.intro (fun hz9 h9 tk9 F9 N9 => ?_) (fun c9 hn9 v9 tl9 hv9 o9 h9 tk9 F9 N9 => ?_); (all_goals ((try dsimp only); (try k_fold))))
  trivial
theorem lam_spec (w : World) (news : Ledger) (f : Addr) (x : PySem.Str) (t : Tok) (hx : NumT x) (hL : LamIn news f) :
   Does w f 6 [.str x t] news (fun K => (NumR x none → K .none news) ∧ (∀ c, NumR x (some c) → ∀ v tl, NumV c v tl → (∀ q ∈ news, ∀ p ∈ tl, q.1 < p.1) → K v (tl ++ news))) := by
  unfold Does
  intro mean mg mb dp un gd cn cs a ccd cl outer A₀ base h₀ L m s Q E B F X N T hk hd hu ret
  obtain ⟨⟨qual, c', ctv, pm, p, p1, p2, p3, p4, oc, vs, t0, h1, h2, h3, h4⟩⟩ := hL
  refine wpAny_call ?_
  k_dflt (refine' kla_code (binds := [(Str.ofString "text", .str x t)]) B F X N T rfl rfl hk h1 (codeRec_news N h2 h3 h4) ?k8 ?k9 ?kB ?_ ?c2 ?c3 ?c4 ?c5)
  case k8 => ktr_room
  case k9 => exact rfl
  case c5 => decide
  case kB => exact locs rfl
  case c2 => exact rfl
  case c3 => exact rfl
  case c4 => exact rfl
  intro g' L' h' FG' F' N' B' X' T'
  (try dsimp only [lamB])
  k_fold
  k_steps
  · exact ret.1 hz9 _ _ (by k_asm) (by k_asm)
  · exact ret.2 _ hn9 _ _ hv9 o9 _ _ (by k_asm) (by k_asm)
end Mine
end
section
namespace Mine
theorem kw_W8_0 : True := by
  k_with_none
  w_top off
  k_with "exec Assign" => walk_at "FOLD"
  k_with "exec Return some" => walk_at "FOLD"
  k_with "exec If" => walk_at "FOLD"
  k_with "exec AugAssign" => walk_at "FOLD"
  k_with "exec Expr" => walk_at "FOLD"
  k_with "eval Tuple" => walk_at "FOLD"
  k_with "eval List" => walk_at "FOLD"
  k_with "eval BinOp" => walk_at "FOLD"
  k_with "eval Call" => walk_at "FOLD"
  k_with "eval Subscript" => walk_at "FOLD"
  k_with "eval IfExp" => walk_at "FOLD"
  k_with "isTrue BoolOp" => walk_at "FOLD"
  k_with "isTrue Compare" => walk_at "FOLD"
  k_with "eval Call Attribute" => walk_at "FOLD"
  k_with "FOLD" => ((fail_if_success (fail_if_success k_fold)); refine (let qk := _; let ek := _; (?_ : wpAny _ _ _ qk ek _)))
  k_with "execs cons" => (refine wp_tk s ?_; intro _)
  k_with "ENTER" => ((case k6 => k_is); (case k7 => k_is); (case k8 => ktr_room); (case k9 => exact BindsTo.of_eq rfl); (case c5 => decide); (case kB => exact locs rfl); (case c2 => exact rfl); (case c3 => exact rfl); (case c4 => exact rfl); k_whole)
  k_with "LpPost" => (dsimp only [LpPost])
  k_with "USE" => ((case k1 => k_asm); (case k2 => k_asm); (case k3 => k_asm); (case k4 => k_asm); (case k5 => k_asm); (case kK => first | exact rfl | assumption); (case kd => first | exact dp_lt (by with_reducible assumption) (by decide) | ktr_room); (case ku => first | exact un_lt (by with_reducible assumption) (by decide) | ktr_units))
  k_with "SIDE" => first | assumption | omega | (split <;> omega)
  k_with "call builtin:str.find" => (k_here; refine find_r (by decide +kernel) (by omega) ?_; intro _)
  k_with "SUB" => ((try simp only [List.cons_append, List.nil_append]); repeat (first | with_reducible exact sub_refl | with_reducible exact sub_nil | ((with_reducible refine sub_cons ?hm ?_); (case hm => k_mem)) | with_reducible refine sub_tail ?_ | with_reducible refine sub_apR ?_))
  k_with "WhlIf" => (refine whlIf_dec ?_ ?_ <;> intro _ <;> try (exfalso; omega))
  k_with "call builtin:abs" => (k_here; refine abs_z ?_; intro z9 _ _ _ z91 z92)
  k_with "binaryOp Mod int int" => (k_here; refine mod_p (by omega) ?_)
  k_with "binaryOp FloorDiv int int" => (k_here; refine div_p (by omega) (by omega) ?_)
  trivial
noncomputable def nought : Addr × Obj := (163, tupO [.int 0 420, .int 0 421])
@[reducible] noncomputable def DIn (tl : Ledger) (v : Value) (d : Dat) : Prop := DatIn (nought :: tl) v d
noncomputable def numD (c : Int) : Dat := if c = 0 then .tuple [.int 0, .int 0] else .tuple [.int (bareF c).1, .int (bareF c).2]
theorem numV_in {c : Int} {v : Value} {tl : Ledger} (h : NumV c v tl) : DIn tl v (numD c) := by
  rcases h with ⟨h1, rfl, rfl⟩ | ⟨h1, b, t1, t2, rfl, rfl⟩
  · rw [numD, if_pos h1]
    exact .tuple (n := 0) (vs := [.int 0 420, .int 0 421]) (.head _) (.cons (.int _ _) (.cons (.int _ _) .nil))
  · rw [numD, if_neg h1]
    exact .tuple (n := 0) (vs := [.int (bareF c).1 t1, .int (bareF c).2 t2]) (.tail _ (.head _)) (.cons (.int _ _) (.cons (.int _ _) .nil))
theorem numD_ne (c : Int) : numD c ≠ .none := by unfold numD; split <;> exact fun e => nomatch e
theorem numV_ne {c : Int} {v : Value} {tl : Ledger} (h : NumV c v tl) : v ≠ .none := by
  rcases h with ⟨_, rfl, _⟩ | ⟨_, _, _, _, rfl, _⟩ <;> exact fun e => nomatch e
noncomputable def oD : Option Int → Dat
  | none => .none
  | some c => numD c
@[reducible] noncomputable def kText : PySem.Str := PySem.Str.ofString "text"
noncomputable def VofR (x k : PySem.Str) (d : Dat) : Prop := ((k == kText) = true ∧ d = .str x) ∨ ((k == kText) = false ∧ (x == PySem.Str.ofString "") = true ∧ d = .int 0) ∨ ((k == kText) = false ∧ (x == PySem.Str.ofString "") = false ∧ ∃ o, NumR x o ∧ d = oD o)
theorem kw_W8_1 : True := by
  k_with "call ref" => (k_here; k_dflt (refine' Does.use (lam_spec _ _ _ _ _ (hx (by with_reducible assumption) (by with_reducible assumption)) hL) ?k1 ?k2 ?k3 ?k4 ?k5 ?kK ?kd ?ku ?_); walk_at "USE"; refine And.intro (fun hz9 h9 tk9 F9 N9 => ?_) (fun c9 hn9 v9 tl9 hv9 o9 h9 tk9 F9 N9 => ?_); (all_goals ((try dsimp only); (try k_fold))))
  k_with "callWith ref" => (k_here; k_dflt (refine' callWith_F ?k1 ?_; (case k1 => exact FnAt.of (by k_asm) (by k_mem)); k_whole))
  trivial
theorem vof_spec (w : World) (news : Ledger) (f : Addr) (x k : PySem.Str) (t t2 : Tok) (hx : (k == PySem.Str.ofString "text") = false → (x == PySem.Str.ofString "") = false → NumT x) (hL : LamIn news f) :
   Does w 113 7 [.str x t, .str k t2, .ref f] news (fun K => (VofR x k .none → K .none news) ∧ (∀ d, VofR x k d → d ≠ .none → ∀ v tl, v ≠ .none → DIn tl v d → (∀ q ∈ news, ∀ p ∈ tl, q.1 < p.1) → K v (news ++ tl))) := by
  unfold Does
  intro mean mg mb dp un gd cn cs a ccd cl outer A₀ base h₀ L m s Q E B F X N T hk hd hu ret
  obtain ⟨⟨qual, c', ctv, pm, p, p1, p2, p3, p4, oc, vs, t0, hm1, hm2, hm3, hm4⟩⟩ := id hL
  refine wpAny_call ?_
  k_dflt (refine' code_def (binds := [(Str.ofString "field", .str x t), (Str.ofString "kind", .str k t2), (Str.ofString "read_number", .ref f)]) B F X N T rfl rfl hk ?k6 ?k7 ?k8 ?k9 ?kB ?_ ?c2 ?c3 ?c4 ?c5)
  walk_at "ENTER"
  intro g' L' h' FG' F' N' B' X' T'
  k_fold
  k_steps
  · exact ret.2 _ (.inl ⟨by with_reducible assumption, rfl⟩) (by intro e; cases e) _ [] (by intro e; cases e) (.str _ _) (fun _ _ _ h => nomatch h) _ _ (by k_asm) (by rw [List.append_nil]; k_asm)
  · exact ret.2 _ (.inr (.inl ⟨by with_reducible assumption, by with_reducible assumption, rfl⟩)) (by intro e; cases e) _ [] (by intro e; cases e) (.int _ _) (fun _ _ _ h => nomatch h) _ _ (by k_asm) (by rw [List.append_nil]; k_asm)
  · exact ret.1 (.inr (.inr ⟨by with_reducible assumption, by with_reducible assumption, _, hz9, rfl⟩)) _ _ (by k_asm) (by k_asm)
  · exact ret.2 _ (.inr (.inr ⟨by with_reducible assumption, by with_reducible assumption, _, hn9, rfl⟩)) (numD_ne _) _ _ (numV_ne hv9) (numV_in hv9) o9 _ _ (by k_asm) (news_comm (by k_asm))
end Mine
end
section
namespace Mine
theorem kw_W9_0 : True := by
  k_with_none
  w_top off
  k_with "exec Assign" => walk_at "FOLD"
  k_with "exec Return some" => walk_at "FOLD"
  k_with "exec If" => walk_at "FOLD"
  k_with "exec AugAssign" => walk_at "FOLD"
  k_with "exec Expr" => walk_at "FOLD"
  k_with "eval Tuple" => walk_at "FOLD"
  k_with "eval List" => walk_at "FOLD"
  k_with "eval BinOp" => walk_at "FOLD"
  k_with "eval Call" => walk_at "FOLD"
  k_with "eval Subscript" => walk_at "FOLD"
  k_with "eval IfExp" => walk_at "FOLD"
  k_with "isTrue BoolOp" => walk_at "FOLD"
  k_with "isTrue Compare" => walk_at "FOLD"
  k_with "eval Call Attribute" => walk_at "FOLD"
  k_with "FOLD" => ((fail_if_success (fail_if_success k_fold)); refine (let qk := _; let ek := _; (?_ : wpAny _ _ _ qk ek _)))
  k_with "execs cons" => (refine wp_tk s ?_; intro _)
  k_with "ENTER" => ((case k6 => k_is); (case k7 => k_is); (case k8 => ktr_room); (case k9 => exact BindsTo.of_eq rfl); (case c5 => decide); (case kB => exact locs rfl); (case c2 => exact rfl); (case c3 => exact rfl); (case c4 => exact rfl); k_whole)
  k_with "LpPost" => (dsimp only [LpPost])
  k_with "USE" => ((case k1 => k_asm); (case k2 => k_asm); (case k3 => k_asm); (case k4 => k_asm); (case k5 => k_asm); (case kK => first | exact rfl | assumption); (case kd => first | exact dp_lt (by with_reducible assumption) (by decide) | ktr_room); (case ku => first | exact un_lt (by with_reducible assumption) (by decide) | ktr_units))
  k_with "SIDE" => first | assumption | omega | (split <;> omega)
  k_with "call builtin:str.find" => (k_here; refine find_r (by decide +kernel) (by omega) ?_; intro _)
  k_with "SUB" => ((try simp only [List.cons_append, List.nil_append]); repeat (first | with_reducible exact sub_refl | with_reducible exact sub_nil | ((with_reducible refine sub_cons ?hm ?_); (case hm => k_mem)) | with_reducible refine sub_tail ?_ | with_reducible refine sub_apR ?_))
  k_with "WhlIf" => (refine whlIf_dec ?_ ?_ <;> intro _ <;> try (exfalso; omega))
  k_with "call builtin:abs" => (k_here; refine abs_z ?_; intro z9 _ _ _ z91 z92)
  k_with "binaryOp Mod int int" => (k_here; refine mod_p (by omega) ?_)
  k_with "binaryOp FloorDiv int int" => (k_here; refine div_p (by omega) (by omega) ?_)
  k_with "exec For" => (refine hold ?_)
  k_with "exec For Tuple Call cons nil" => (refine hold ?_)
  k_with "callWith ref" => (k_here; k_dflt (refine' callWith_F ?k1 ?_; (case k1 => exact FnAt.of (by k_asm) (by k_mem)); k_whole))
  trivial
theorem lt_all {l tl : Ledger} {a : Addr} {o : Obj} {p : Addr × Obj} (h : ∀ q ∈ l, ∀ p ∈ tl, q.1 < p.1) (m : (a, o) ∈ l) (hp : p ∈ tl) : a < p.1 := h _ m p hp
theorem kw_W9_m0 : True := by
  k_with "KALL" => (first | assumption | (refine all_app (by assumption) (fun p hp => Nat.ne_of_gt (lt_all (by with_reducible assumption) (by k_mem) hp))))
  trivial
theorem kw_W9_1 : True := by
  k_with "call ref" => (k_here; k_dflt (refine' Does.use (told_spec _ _ _ _ ?s1) ?k1 ?k2 ?k3 ?k4 ?k5 ?kK ?kd ?ku ?_); walk_at "USE"; (case s1 => walk_at "SIDE"); refine And.intro (fun hz9 h9 tk9 F9 N9 => ?_) (fun acc9 ha9 hlen9 fl9 vs9 n9 tl9 hd9 o9 u9 h9 tk9 F9 N9 => ?_); (all_goals ((try (have hlv9 := DatAll.length hd9; rw [List.length_map] at hlv9)); (try dsimp only); (try k_fold))))
  trivial
theorem kw_W9_m1 : True := by
  k_with "KMEM" => (first | with_reducible assumption | exact List.mem_append.mpr (.inl (by with_reducible assumption)) | (refine List.mem_append.mpr (.inr ?_); k_mem))
  trivial
theorem kw_W9_2 : True := by
  k_with "newList" => (k_here; k_dflt (refine' newList_K ?k1 ?k2 ?_; (case k1 => k_asm); (case k2 => k_asm); k_whole); intro fn h' F' N' lfn9; (try k_lt lfn9); (try k_sweep))
  trivial
theorem len_L {prog : Program} {w : World} {A : Around} {E : Value → Shared → Prop} {s : Shared} {h₀ : Heap} {L D : Addr} {news : Ledger} {vs : List Value} {n : Nat} {Q : Value → Shared → Prop} (N : News h₀ L s.heap news) (hm : (D, listOf vs.toArray n) ∈ news) (hf : vs.length ≤ 1000000)
    (h : Q (.int (vs.length : Nat) (s.toks + 1)) { s with toks := s.toks + 1 + 1 }) : wpAny (model prog w) A (call (.builtin "len") [.ref D]) Q E s := by
  have hl : s.heap.IsList D vs.toArray := News.isList N hm
  refine Calls.call_len_list hl (by rw [List.size_toArray]; omega) ?_
  rw [List.size_toArray]
  exact h
theorem kw_W9_3 : True := by
  k_with "call builtin:len" => (k_here; (with_reducible show wpAny _ _ (call (Value.builtin "len") [Value.ref _]) _ _ _); refine len_L (by k_asm) (by k_dflt k_mem) (by omega) ?_)
  trivial
theorem is_none_no {prog : Program} {w : World} {A : Around} {E : Value → Shared → Prop} {s : Shared} {v : Value} {l : Ledger} {d : Dat} {Q : Value → Shared → Prop} (hd : DatIn l v d) (hv : v ≠ .none) (h : Q (.bool false) s) : wpAny (model prog w) A (compareOp .Is v .none) Q E s := by
  cases hd <;> first | exact absurd rfl hv | exact wpAny_is_other (by rfl) (by intro x; cases x) h
theorem kw_W9_4 : True := by
  k_with "isTrue BoolOp" => ((have zz9 : Hold True := (by with_reducible assumption)); clear zz9; refine hold ?_)
  k_with "compareOp Is" => (k_here; refine is_none_no (by with_reducible assumption) (by with_reducible assumption) ?_)
  k_with "call ref" => (k_here; k_dflt (refine' Does.use (vof_spec _ _ _ _ _ _ _ ?s1 ?s2) ?k1 ?k2 ?k3 ?k4 ?k5 ?kK ?kd ?ku ?_); walk_at "USE"; (case s1 => exact hx (by with_reducible assumption)); (case s2 => (refine LamIn.mono hL ?_; walk_at "SUB")); refine And.intro (fun hz9 h9 tk9 F9 N9 => ?_) (fun dv9 hd9v hn9v v9 tv9 hvn9 hv9 ov9 h9 tk9 F9 N9 => ?_); (all_goals ((try simp only [List.cons_append] at N9); (try dsimp only); (try k_fold))))
  k_with "call builtin:list.append" => (k_here; (with_reducible show wpAny _ _ (call (Value.builtin _) [Value.ref _, _]) _ _ _); k_dflt (refine' append_K ?k1 ?k2 ?k3 ?_ ?z; (case k1 => k_asm); (case k2 => k_asm); (case k3 => k_upd); (case z => with_reducible assumption); k_whole); intro h' F' N'; (try k_sweep))
  trivial
inductive FitV (p : PySem.Str × Bool) (k : PySem.Str) : Option Dat → Prop
  | spoilt : p.2 = true → (k == kText) = false → FitV p k none
  | miss : (p.2 = false ∨ (k == kText) = true) → VofR p.1 k .none → FitV p k none
  | some {d} : (p.2 = false ∨ (k == kText) = true) → VofR p.1 k d → d ≠ .none → FitV p k (some d)
inductive FitL : List (PySem.Str × Bool) → List PySem.Str → Option (List Dat) → Prop
  | nil : FitL [] [] (some [])
  | bad {p k acc ks} : FitV p k none → FitL (p :: acc) (k :: ks) none
  | step {p k d acc ks r} : FitV p k (some d) → FitL acc ks r → FitL (p :: acc) (k :: ks) (r.map (d :: ·))
inductive FitR (x : PySem.Str) (ks : List PySem.Str) : Option (List Dat) → Prop
  | none : ToldR x 0 [] none → FitR x ks none
  | many {acc} : ToldR x 0 [] (some acc) → acc.length ≠ ks.length → FitR x ks none
  | fit {acc r} : ToldR x 0 [] (some acc) → acc.length = ks.length → FitL acc ks r → FitR x ks r
theorem kw_W9_5 : True := by
  k_with "SUBV" => exact sub_cons (.head _) (sub_tail (sub_apl (sub_apL sub_refl) (sub_apR (sub_tail (sub_apR sub_refl)))))
  trivial
theorem fit_sub1 {a b c d e g : Addr × Obj} {tv tw B : Ledger} : ∀ p ∈ [a, b, c, d, e] ++ (g :: ((tv ++ tw) ++ B)), p ∈ a :: b :: c :: d :: e :: g :: ((tv ++ B) ++ tw) := by
  intro p hp
  simp only [List.mem_append, List.mem_cons, List.not_mem_nil, or_false] at hp ⊢
  rcases hp with (h | h | h | h | h) | h | (h | h) | h <;> simp [h]
theorem fit_off {I : Nat} {o1 o2 o3 o4 o5 og : Obj} {fn : Addr} {tv tw B : Ledger} (h1 : ∀ p ∈ tv, I + 4 < p.1) (h2 : ∀ p ∈ tw, I + 4 < p.1) (h3 : @LT.lt Nat _ fn I) (h4 : ∀ p ∈ B, p.1 < I) :
    ∀ p ∈ (fn, og) :: ((tv ++ tw) ++ B), ∀ q ∈ [(I + 4, o1), (I + 2, o2), (I + 3, o3), (I, o4), (I + 1, o5)], p.1 ≠ q.1 := by
  intro p hp q hq e
  have hq' : q.1 = I + 4 ∨ q.1 = I + 2 ∨ q.1 = I + 3 ∨ q.1 = I ∨ q.1 = I + 1 := by
    simp only [List.mem_cons, List.not_mem_nil, or_false] at hq
    rcases hq with rfl | rfl | rfl | rfl | rfl <;> simp
  have hp' : @LT.lt Nat _ p.1 I ∨ @LT.lt Nat _ (I + 4) p.1 := by
    simp only [List.mem_append, List.mem_cons] at hp
    rcases hp with rfl | (hp | hp) | hp
    · exact .inl h3
    · exact .inr (h1 p hp)
    · exact .inr (h2 p hp)
    · exact .inl (h4 p hp)
  have e' : @Eq Nat p.1 q.1 := e
  omega
theorem fit_app {tv tw : Ledger} {fvs : List Value} {done : List Dat} {v : Value} {d : Dat} (h : DatAll (nought :: tv) fvs done) (hv : DIn tw v d) : DatAll (nought :: (tv ++ tw)) (fvs ++ [v]) (done ++ [d]) :=
  DatAll.append (h.mono (sub_cons (.head _) (sub_tail (sub_apL sub_refl)))) (.one (hv.mono (sub_cons (.head _) (sub_tail (sub_apR sub_refl)))))
theorem fit_map {acc : List (PySem.Str × Bool)} {ks : List PySem.Str} {r : Option (List Dat)} {done : List Dat} {d : Dat} (h : FitL acc ks (Option.map (fun x => done ++ x) (Option.map (fun x => d :: x) r))) : FitL acc ks (Option.map (fun x => (done ++ [d]) ++ x) r) := by
  cases r with
  | none => exact h
  | some x => simpa using h
theorem wp_cutB {M : Model} {A : Around} {t : Sem Bool} {Q : Bool → Shared → Prop} {E : Value → Shared → Prop} {h : Heap} {g : Array GenState} {d : Drawn} {tk : Nat} {o : OsState} (c : Bool)
    (h1 : wpAny M A t (fun v s' => v = c ∧ ∃ tk', s' = ⟨h, g, d, tk', o⟩) E ⟨h, g, d, tk, o⟩) (k : ∀ tk', Q c ⟨h, g, d, tk', o⟩) : wpAny M A t Q E ⟨h, g, d, tk, o⟩ :=
  wpAny_mono h1 (fun v s' x => by
    obtain ⟨rfl, tk', rfl⟩ := x
    exact k tk') fun _ _ x => x
theorem sp_t {b : Bool} {k : PySem.Str} (h : (b && (k != kText)) = true) : b = true ∧ (k == kText) = false := by
  rw [Bool.and_eq_true, bne, Bool.not_eq_true'] at h
  exact h
theorem sp_f {b : Bool} {k : PySem.Str} (h : (b && (k != kText)) = false) : b = false ∨ (k == kText) = true := by
  cases b with
  | false => exact .inl rfl
  | true => rw [Bool.true_and, bne, Bool.not_eq_false'] at h; exact .inr h
inductive FitI (news : Ledger) (f fl9 fn I : Addr) (vs9 : List Value) (n9 : Nat) (tl9 : Ledger) (acc9 : List (PySem.Str × Bool)) (ks : List PySem.Str) (c : List (PySem.Str × Bool) × List PySem.Str × List Dat) (items : List Itm) (m1 : PySem.Str → Option Value) (nx : Ledger) : Prop
  | mk (xs kvs' fvs : List Value) (n : Nat) (tlV : Ledger) (h0 : items = zipItems xs kvs') (h1 : DatAll tl9 xs (c.1.map fD)) (h2 : DatAll news kvs' (c.2.1.map Dat.str)) (h3 : c.1.length = c.2.1.length) (h4 : nx = (fn, listOf fvs.toArray n) :: (tlV ++ ((fl9, listOf vs9.toArray n9) :: (tl9 ++ news)))) (h5 : DatAll (nought :: tlV) fvs c.2.2) (h6 : (∀ p ∈ tlV, I + 4 < p.1)) (h7 : (∀ q ∈ news, ∀ p ∈ tlV, q.1 < p.1)) (h8 : Has m1 [(Str.ofString "found", .ref fn), (Str.ofString "read_number", .ref f)]) (h9 : (∀ p ∈ c.1, p ∈ acc9)) (h10 : c.1.length + c.2.2.length ≤ 3) (h11 : (∀ r, FitL c.1 c.2.1 r → FitL acc9 ks (r.map (c.2.2 ++ ·)))) : FitI news f fl9 fn I vs9 n9 tl9 acc9 ks c items m1 nx
theorem FitI.inv_nil {news : Ledger} {f fl9 fn I : Addr} {vs9 : List Value} {n9 : Nat} {tl9 : Ledger} {acc9 : List (PySem.Str × Bool)} {ks : List PySem.Str} {c : List (PySem.Str × Bool) × List PySem.Str × List Dat} {m1 : PySem.Str → Option Value} {nx : Ledger} {P : Ledger → Prop} (h : FitI news f fl9 fn I vs9 n9 tl9 acc9 ks c [] m1 nx)
    (k : ∀ (fvs : List Value) (n : Nat) (tlV : Ledger), DatAll (nought :: tlV) fvs c.2.2 → (∀ q ∈ news, ∀ p ∈ tlV, q.1 < p.1) → Has m1 [(Str.ofString "found", .ref fn), (Str.ofString "read_number", .ref f)] → FitL acc9 ks (some c.2.2) → P ((fn, listOf fvs.toArray n) :: (tlV ++ ((fl9, listOf vs9.toArray n9) :: (tl9 ++ news))))) : P nx := by
  obtain ⟨acc, ks', done⟩ := c
  obtain ⟨xs, kvs', fvs, n, tlV, hit, hxs, hkv, hll, rfl, hdone, hgt, hord, hm, hsub, hlen3, hR⟩ := h
  simp only at hxs hkv hll hdone hsub hlen3 hR
  have hl1 := DatAll.length hxs
  have hl2 := DatAll.length hkv
  have hl3 := congrArg List.length hit
  rw [zipItems_length] at hl3
  simp only [List.length_map, List.length_nil] at hl1 hl2 hl3
  have ha : acc = [] := List.eq_nil_of_length_eq_zero (by omega)
  have hk' : ks' = [] := List.eq_nil_of_length_eq_zero (by omega)
  subst ha hk'
  have hF := hR _ .nil
  simp only [Option.map_some, List.append_nil] at hF
  exact k fvs n tlV hdone hord hm hF
theorem FitI.inv_cons {news : Ledger} {f fl9 fn I : Addr} {vs9 : List Value} {n9 : Nat} {tl9 : Ledger} {acc9 : List (PySem.Str × Bool)} {ks : List PySem.Str} {c : List (PySem.Str × Bool) × List PySem.Str × List Dat} {it : Itm} {r : List Itm} {m1 : PySem.Str → Option Value} {nx : Ledger} {P : Itm → List Itm → Ledger → Prop} (h : FitI news f fl9 fn I vs9 n9 tl9 acc9 ks c (it :: r) m1 nx)
    (k : ∀ (y : PySem.Str) (b : Bool) (acc : List (PySem.Str × Bool)) (kk : PySem.Str) (ks' : List PySem.Str) (ax : Addr) (nx2 : Nat) (ty tk2 : Tok) (xs kvs' fvs : List Value) (n : Nat) (tlV : Ledger), (ax, ({ cls := .type "tuple", data := .seq [.str y ty, .bool b].toArray nx2 } : Obj)) ∈ tl9 → DatAll tl9 xs (acc.map fD) → DatAll news kvs' (ks'.map Dat.str) → acc.length = ks'.length → DatAll (nought :: tlV) fvs c.2.2 → (∀ p ∈ tlV, I + 4 < p.1) → (∀ q ∈ news, ∀ p ∈ tlV, q.1 < p.1) → Has m1 [(Str.ofString "found", .ref fn), (Str.ofString "read_number", .ref f)] → (y, b) ∈ acc9 → (∀ p ∈ acc, p ∈ acc9) → acc.length + 1 + fvs.length ≤ 3 → c.2.2.length = fvs.length → (∀ r, FitL ((y, b) :: acc) (kk :: ks') r → FitL acc9 ks (r.map (c.2.2 ++ ·))) →
      P (.pair (fun _ => .ref ax) (.str kk tk2)) (zipItems xs kvs') ((fn, listOf fvs.toArray n) :: (tlV ++ ((fl9, listOf vs9.toArray n9) :: (tl9 ++ news))))) : P it r nx := by
  obtain ⟨acc, ks', done⟩ := c
  obtain ⟨xs, kvs', fvs, n, tlV, hit, hxs, hkv, hll, rfl, hdone, hgt, hord, hm, hsub, hlen3, hR⟩ := h
  simp only at hxs hkv hll hdone hsub hlen3 hR
  cases xs with
  | nil => simp [zipItems] at hit
  | cons x xs =>
  cases kvs' with
  | nil => simp [zipItems] at hit
  | cons kv kvs' =>
  cases acc with
  | nil => cases hxs
  | cons pp acc =>
  cases ks' with
  | nil => cases hkv
  | cons kk ks' =>
  obtain ⟨y, b⟩ := pp
  have e : it = .pair (fun _ => x) kv ∧ r = zipItems xs kvs' := by simpa [zipItems] using hit
  obtain ⟨rfl, rfl⟩ := e
  cases hxs with
  | cons hx1 hxs =>
  cases hkv with
  | cons hk1 hkv =>
  cases hk1 with
  | str _ tk2 =>
  cases hx1 with
  | @tuple ax vx nx2 _ hmx hvx =>
  cases hvx with
  | cons hv1 hvx =>
  cases hvx with
  | cons hv2 hvx =>
  cases hvx
  cases hv1 with
  | str _ ty =>
  cases hv2
  have hdl := DatAll.length hdone
  exact k y b acc kk ks' ax nx2 ty tk2 xs kvs' fvs n tlV hmx hxs hkv (by simpa using hll) hdone hgt hord hm (hsub _ (.head _)) (fun p hp => hsub p (.tail _ hp)) (by simp only [List.length_cons] at hlen3; omega) hdl.symm hR
theorem fit_spec (w : World) (news : Ledger) (f kl : Addr) (kvs : List Value) (kn : Nat) (ks : List PySem.Str) (x : PySem.Str) (t : Tok) (hx : x.length ≤ 1000) (hL : LamIn news f) (hkl : (kl, listOf kvs.toArray kn) ∈ news) (hks : DatAll news kvs (ks.map Dat.str)) (hkn : ks.length ≤ 3)
   (hN : ∀ acc, ToldR x 0 [] (some acc) → ∀ p ∈ acc, p.2 = false → (p.1 == PySem.Str.ofString "") = false → NumT p.1) :
   Does w 120 8 [.ref kl, .str x t, .ref f] news (fun K => (FitR x ks none → K .none news) ∧ (∀ ds, FitR x ks (some ds) → ∀ fl vs n tl, DatAll (nought :: tl) vs ds → (∀ q ∈ news, ∀ p ∈ (fl, listOf vs.toArray n) :: tl, q.1 < p.1) → K (.ref fl) ((fl, listOf vs.toArray n) :: (tl ++ news)))) := by
  unfold Does
  intro mean mg mb dp un gd cn cs a ccd cl outer A₀ base h₀ L m s Q E B F X N T hk hd hu ret
  obtain ⟨⟨qual, c', ctv, pm, p, p1, p2, p3, p4, oc, vs, t0, hm1, hm2, hm3, hm4⟩⟩ := id hL
  have hkl2 := DatAll.length hks
  rw [List.length_map] at hkl2
  refine wpAny_call ?_
  k_dflt (refine' code_def (binds := [(Str.ofString "kinds", .ref kl), (Str.ofString "text", .str x t), (Str.ofString "read_number", .ref f)]) B F X N T rfl rfl hk ?k6 ?k7 ?k8 ?k9 ?kB ?_ ?c2 ?c3 ?c4 ?c5)
  walk_at "ENTER"
  intro g' L' h' FG' F' N' B' X' T'
  k_fold
  k_steps
  · exact ret.1 (.none hz9) _ _ (by k_asm) (by k_asm)
  · exact ret.1 (.many ha9 (by omega)) _ _ (by k_asm) (cb_drop (by k_asm) (by walk_at "SUB"))
  have hlen : acc9.length = ks.length := by omega
  unfold Hold
  (with_reducible rename Fr _ _ _ _ => F9)
  refine For_turns F9 ?_
  k_steps
  (with_reducible rename Fr _ _ _ _ => F9)
  (with_reducible rename News _ _ _ _ => N9)
  refine ktu_zip (by rfl) F9 N9 (by k_mem) rfl rfl (by k_mem) rfl rfl ?_
  intro I lI
  have hE := (show PassesOwn _ _ _ ek from by passes_own)
  refine items_ind (FitI news f fl9 fn I vs9 n9 tl9 acc9 ks) ?nil ?cons (zipItems vs9 kvs) (acc9, ks, []) _ _ ?start
  case start => exact ⟨vs9, kvs, [], 0, [], rfl, hd9, hks, hlen, rfl, .nil, (fun _ h => nomatch h), (fun _ _ _ h => nomatch h), ⟨rfl, rfl, trivial⟩, fun _ h => h, by simp only [List.length_nil]; omega, fun r h => by cases r <;> simpa using h⟩
  case nil =>
    rintro c m1 nx hI
    refine hI.inv_nil fun fvs n tlV hdone hord hm hF => ?_
    rw [show m1 = fmu _ m1 from fmu_eq hm]
    refine ItemsRest.zero (fun h2 tk2 F2 N2 => ?_)
    k_steps
    exact ret.2 _ (.fit ha9 hlen hF) fn fvs n tlV hdone (fun q hq p hp => by
      rcases List.mem_cons.mp hp with rfl | hp
      · exact ktn_ltOf (show AllLt fn (tl9 ++ news) from lfn9.2) q (List.mem_append.mpr (.inr hq))
      · exact hord q hq p hp) _ _ (by k_asm) (cb_drop (by k_asm) (by walk_at "SUBV"))
  case cons =>
    rintro c it r m1 nx hI IH
    revert IH
    refine FitI.inv_cons (P := fun it r nx => (∀ c' m' news', FitI news f fl9 fn I vs9 n9 tl9 acc9 ks c' r m' news' → ItemsRest _ _ _ _ _ _ _ _ _ _ _ _ r m' news') → ItemsRest _ _ _ _ _ _ _ _ _ _ _ _ (it :: r) m1 nx) hI ?_
    intro y b acc kk ks' ax nx2 ty tk2 xs kvs' fvs n tlV hmx hxs hkv hll hdone hgt hord hm hyb hsub hlen3 hdl hR IH
    have hfn : @LT.lt Nat _ fn I := lI _ (.head _)
    have hsz : fvs.toArray.size ≤ sizeLine := by rw [List.size_toArray, sizeLine_eq]; omega
    have hoff1 : ∀ p ∈ tlV ++ (fl9, listOf vs9.toArray n9) :: (tl9 ++ news), p.1 ≠ fn := all_app (fun p hp => Nat.ne_of_gt (Nat.lt_of_lt_of_le hfn (Nat.le_trans (Nat.le_add_right _ _) (Nat.le_of_lt (hgt p hp))))) (fun p hp => Nat.ne_of_lt (ktn_ltOf (show AllLt fn ((fl9, listOf vs9.toArray n9) :: (tl9 ++ news)) from lfn9) p hp))
    have hbI : ∀ p ∈ (fl9, listOf vs9.toArray n9) :: (tl9 ++ news), p.1 < I := fun p hp => lI p (.tail _ hp)
    rw [show m1 = fmu _ m1 from fmu_eq hm]
    refine ItemsRest.pair (fun T tt h2 tk2 hT F2 => ?_)
    ktu_objs
    have hB : ∀ q ∈ news, q ∈ (fl9, listOf vs9.toArray n9) :: (tl9 ++ news) := sub_tail (sub_apR sub_refl)
    have hx : (b && (kk != Str.ofString "text")) = false → (kk == Str.ofString "text") = false → (y == Str.ofString "") = false → NumT y := fun h1 h2 hne => hN acc9 ha9 (y, b) hyb ((sp_f h1).resolve_right fun e => by rw [show (kk == kText) = false from h2] at e; cases e) hne
    have hh : Hold True := hold trivial
    k_steps
    clear hh
    unfold Hold
    refine wp_cutB (b && (kk != Str.ofString "text")) ?_ ?_
    · cases b with
      | true =>
        k_steps
        · rw [Bool.true_and]; exact Eq.symm (by with_reducible assumption)
        · rw [Bool.true_and]; exact Eq.symm (by with_reducible assumption)
      | false => k_steps
    intro tk9
    k_steps
    · exact ret.1 (.fit ha9 hlen (hR none (.bad (.spoilt (sp_t (by with_reducible assumption)).1 (sp_t (k := kk) (b := b) (by with_reducible assumption)).2)))) _ _ (by k_asm) (cb_drop (by k_asm) (by walk_at "SUB"))
    · exact ret.1 (.fit ha9 hlen (hR none (.bad (.miss (sp_f (by with_reducible assumption)) hz9)))) _ _ (by k_asm) (cb_drop (by k_asm) (by walk_at "SUB"))
    · (with_reducible rename News _ _ _ _ => hN1)
      rw [List.push_toArray] at hN1
      exact ⟨_, _, _, (fn, listOf (fvs ++ [v9]).toArray (n + 1)) :: ((tlV ++ tv9) ++ ((fl9, listOf vs9.toArray n9) :: (tl9 ++ news))), rfl, by k_asm, cb_drop hN1 fit_sub1, fit_off hgt (fun p hp => ov9 _ (.head _) p hp) hfn hbI, ⟨⟨.tail _ (List.mem_append.mpr (.inr (.head _))), .tail _ (List.mem_append.mpr (.inr (.tail _ (List.mem_append.mpr (.inr hkl))))), trivial⟩,
          IH (acc, ks', c.2.2 ++ [dv9]) _ _ ⟨xs, kvs', fvs ++ [v9], n + 1, tlV ++ tv9, rfl, hxs, hkv, hll, rfl, fit_app hdone hv9, all_app hgt (fun p hp => ov9 _ (.head _) p hp), fun q hq => all_app (hord q hq) (fun p hp => ov9 q (.tail _ (.tail _ (.tail _ (.tail _ (.tail _ (.tail _ (List.mem_append.mpr (.inr (hB q hq))))))))) p hp), ⟨rfl, rfl, trivial⟩, hsub, by simp only [List.length_cons, List.length_append, List.length_nil]; omega, fun r hr => fit_map (hR _ (.step (.some (sp_f (by with_reducible assumption)) hd9v hn9v) hr))⟩⟩⟩
end Mine
end
section
namespace Mine
theorem kw_W10_0 : True := by
  k_with_none
  w_top off
  k_with "exec Assign" => walk_at "FOLD"
  k_with "exec Return some" => walk_at "FOLD"
  k_with "exec If" => walk_at "FOLD"
  k_with "exec AugAssign" => walk_at "FOLD"
  k_with "exec Expr" => walk_at "FOLD"
  k_with "eval Tuple" => walk_at "FOLD"
  k_with "eval List" => walk_at "FOLD"
  k_with "eval BinOp" => walk_at "FOLD"
  k_with "eval Call" => walk_at "FOLD"
  k_with "eval Subscript" => walk_at "FOLD"
  k_with "eval IfExp" => walk_at "FOLD"
  k_with "isTrue BoolOp" => walk_at "FOLD"
  k_with "isTrue Compare" => walk_at "FOLD"
  k_with "eval Call Attribute" => walk_at "FOLD"
  k_with "FOLD" => ((fail_if_success (fail_if_success k_fold)); refine (let qk := _; let ek := _; (?_ : wpAny _ _ _ qk ek _)))
  k_with "execs cons" => (refine wp_tk s ?_; intro _)
  k_with "ENTER" => ((case k6 => k_is); (case k7 => k_is); (case k8 => ktr_room); (case k9 => exact BindsTo.of_eq rfl); (case c5 => decide); (case kB => exact locs rfl); (case c2 => exact rfl); (case c3 => exact rfl); (case c4 => exact rfl); k_whole)
  k_with "LpPost" => (dsimp only [LpPost])
  k_with "USE" => ((case k1 => k_asm); (case k2 => k_asm); (case k3 => k_asm); (case k4 => k_asm); (case k5 => k_asm); (case kK => first | exact rfl | assumption); (case kd => first | exact dp_lt (by with_reducible assumption) (by decide) | ktr_room); (case ku => first | exact un_lt (by with_reducible assumption) (by decide) | ktr_units))
  k_with "SIDE" => first | assumption | omega | (split <;> omega)
  k_with "call builtin:str.find" => (k_here; refine find_r (by decide +kernel) (by omega) ?_; intro _)
  k_with "SUB" => ((try simp only [List.cons_append, List.nil_append]); repeat (first | with_reducible exact sub_refl | with_reducible exact sub_nil | ((with_reducible refine sub_cons ?hm ?_); (case hm => k_mem)) | with_reducible refine sub_tail ?_ | with_reducible refine sub_apR ?_))
  k_with "WhlIf" => (refine whlIf_dec ?_ ?_ <;> intro _ <;> try (exfalso; omega))
  k_with "call builtin:abs" => (k_here; refine abs_z ?_; intro z9 _ _ _ z91 z92)
  k_with "binaryOp Mod int int" => (k_here; refine mod_p (by omega) ?_)
  k_with "binaryOp FloorDiv int int" => (k_here; refine div_p (by omega) (by omega) ?_)
  k_with "exec For Name Name cons nil" => (refine hold ?_)
  k_with "newList" => (k_here; k_dflt (refine' newList_K ?k1 ?k2 ?_; (case k1 => k_asm); (case k2 => k_asm); k_whole); intro fn h' F' N' lfn9; (try k_sweep))
  k_with "call builtin:list.append" => (k_here; (with_reducible show wpAny _ _ (call (Value.builtin _) [Value.ref _, _]) _ _ _); k_dflt (refine' append_K ?k1 ?k2 ?k3 ?_ ?z; (case k1 => k_asm); (case k2 => k_asm); (case k3 => k_upd); (case z => with_reducible assumption); k_whole); intro h' F' N'; (try k_sweep))
  trivial
theorem has_all {m : PySem.Str → Option Value} : ∀ {al : List (PySem.Str × Value)}, Has m al → ∀ p ∈ al, m p.1 = some p.2
  | [], _, _, h => nomatch h
  | _ :: _, h, _, .head _ => h.1
  | _ :: _, h, p, .tail _ hp => has_all h.2 p hp
theorem kw_W10_m0 : True := by
  k_with "KST" => ((intro z h1 h2 h3; (simp only [List.forall_mem_cons, List.not_mem_nil, false_implies, implies_true, and_true, ne_eq] at h2); (simp only [List.contains_cons, List.contains_nil, Bool.or_false, Bool.or_eq_false_iff, beq_eq_false_iff_ne, ne_eq] at h3); simp [h1, h2, h3, kstB]; done))
  trivial
structure PcS where
  fvs : List Value
  n : Nat
  cur : PySem.Str
  ct : Tok
  q : Bool
noncomputable def blk : PySem.Str := PySem.Str.ofString " \t"
/-- one sign of pieces_of: what is found, what stands here, whether quotes are open -/
noncomputable def pcStep (s : List PySem.Str × PySem.Str × Bool) (c : Int) : List PySem.Str × PySem.Str × Bool :=
  let q := if c = 34 then !s.2.2 else s.2.2
  if c = 44 ∧ q = false then (s.1 ++ [Txt.stripChars s.2.1 blk], PySem.Str.ofString "", q) else (s.1, s.2.1 ++ st [c.toNat], q)
noncomputable def pcFold (l : List Int) : List PySem.Str × PySem.Str × Bool := l.foldl pcStep ([], PySem.Str.ofString "", false)
noncomputable def pcP (pre : List Int) (c : PcS) : Prop := DatAll [] c.fvs ((pcFold pre).1.map Dat.str) ∧ c.cur = (pcFold pre).2.1 ∧ c.q = (pcFold pre).2.2 ∧ c.cur.length ≤ pre.length ∧ c.fvs.length ≤ pre.length
theorem pcFold_snoc (pre : List Int) (c : Int) : pcFold (pre ++ [c]) = pcStep (pcFold pre) c := by simp [pcFold]
theorem sg_t {c k : Nat} {y : PySem.Str} (e : y = st [k]) (h : (({ cps := #[c] } : PySem.Str) == y) = true) : c = k := by
  have := st_inj (show st [c] = st [k] from (eq_of_beq h).trans e)
  simpa using this
theorem sg_f {c k : Nat} {y : PySem.Str} (e : y = st [k]) (h : (({ cps := #[c] } : PySem.Str) == y) = false) : c ≠ k := by
  rintro rfl
  subst e
  rw [show ({ cps := #[c] } : PySem.Str) = st [c] from rfl, beq_self_eq_true] at h
  cases h
theorem e34 : PySem.Str.ofString "\"" = st [34] := by decide +kernel
theorem e44 : PySem.Str.ofString "," = st [44] := by decide +kernel
theorem pc_go {pre : List Int} {fvs n cur ct q} {c : Nat} (h : pcP pre ⟨fvs, n, cur, ct, q⟩) {q' : Bool} {n' : Nat} {ct' : Tok} (hq : q' = if c = 34 then !q else q) (hn : ¬ (c = 44 ∧ q' = false)) : pcP (pre ++ [(c : Int)]) ⟨fvs, n', cur ++ { cps := #[c] }, ct', q'⟩ := by
  obtain ⟨h1, h2, h3, h4, h5⟩ := h
  simp only at h1 h2 h3 h4 h5
  subst h2 h3
  have hq' : (if (c : Int) = 34 then !(pcFold pre).2.2 else (pcFold pre).2.2) = q' := by rw [hq]; by_cases hc : c = 34 <;> simp [hc] <;> omega
  have e : pcStep (pcFold pre) (c : Int) = ((pcFold pre).1, (pcFold pre).2.1 ++ st [c], q') := by
    unfold pcStep
    simp only [hq']
    rw [if_neg (by rintro ⟨a, b⟩; exact hn ⟨by omega, b⟩)]
    rfl
  have hl : ((pcFold pre).2.1 ++ { cps := #[c] }).length = (pcFold pre).2.1.length + 1 := by
    rw [← st_Lx (pcFold pre).2.1, show ({ cps := #[c] } : PySem.Str) = st [c] from rfl, st_app, len_st, len_st, List.length_append]; rfl
  refine ⟨?_, ?_, ?_, ?_, ?_⟩ <;> simp only [pcFold_snoc, e, List.length_append, List.length_cons, List.length_nil]
  · exact h1
  · rfl
  · omega
  · omega
theorem pc_cut {pre : List Int} {fvs n cur ct q} {c : Nat} (h : pcP pre ⟨fvs, n, cur, ct, q⟩) {n' : Nat} {t ct' : Tok} (hc : c = 44) (hq : q = false) : pcP (pre ++ [(c : Int)]) ⟨fvs ++ [.str (Txt.stripChars cur blk) t], n', PySem.Str.ofString "", ct', q⟩ := by
  obtain ⟨h1, h2, h3, h4, h5⟩ := h
  simp only at h1 h2 h3 h4 h5
  subst h2 h3 hc
  have e : pcStep (pcFold pre) ((44 : Nat) : Int) = ((pcFold pre).1 ++ [Txt.stripChars (pcFold pre).2.1 blk], PySem.Str.ofString "", (pcFold pre).2.2) := by
    unfold pcStep
    simp only [hq]
    rfl
  have hl : (PySem.Str.ofString "").length = 0 := by decide +kernel
  refine ⟨?_, ?_, ?_, ?_, ?_⟩ <;> simp only [pcFold_snoc, e, List.length_append, List.length_cons, List.length_nil]
  · rw [List.map_append]
    exact DatAll.append h1 (.one (.str _ _))
  · omega
  · omega
theorem pieces_spec (w : World) (news : Ledger) (x : PySem.Str) (t : Tok) (hx : x.length ≤ 1000) :
   Does w 162 1 [.str x t] news (fun K => ∀ fl vs n, DatAll [] vs (((pcFold (KStt.codes x)).1 ++ [Txt.stripChars (pcFold (KStt.codes x)).2.1 blk]).map Dat.str) → (∀ q ∈ news, q.1 < fl) → K (.ref fl) ((fl, listOf vs.toArray n) :: news)) := by
  unfold Does
  intro mean mg mb dp un gd cn cs a ccd cl outer A₀ base h₀ L m s Q E B F X N T hk hd hu ret
  refine wpAny_call ?_
  k_dflt (refine' code_def (binds := [(Str.ofString "text", .str x t)]) B F X N T rfl rfl hk ?k6 ?k7 ?k8 ?k9 ?kB ?_ ?c2 ?c3 ?c4 ?c5)
  walk_at "ENTER"
  intro g' L' h' FG' F' N' B' X' T'
  k_fold
  k_steps
  unfold Hold
  have hoff : ∀ p ∈ news, p.1 ≠ fn := fun p hp => Nat.ne_of_lt (lfn9 p hp)
  (with_reducible rename Fr _ _ _ _ => F9)
  refine For_invV g' rfl rfl ?_
  k_steps
  (with_reducible rename Fr _ _ _ _ => F9)
  (with_reducible rename News _ _ _ _ => N9)
  have F10 : ∃ ct u, Fr g' L' _ (fmu [(Str.ofString "found", .ref fn), (Str.ofString "here", .str (Str.ofString "") ct), (Str.ofString "is_quoted", .bool false), (Str.ofString "text", .str x t)] u) := ⟨_, _, Fr.toU F9 ⟨rfl, rfl, rfl, rfl, trivial⟩⟩
  obtain ⟨ct0, u0, F10⟩ := F10
  refine KStt.kst_text (fun c : PcS => (fn, listOf c.fvs.toArray c.n) :: news) (fun c => [(Str.ofString "found", .ref fn), (Str.ofString "here", .str c.cur c.ct), (Str.ofString "is_quoted", .bool c.q), (Str.ofString "text", .str x t)]) (fun _ => True) [Str.ofString "here", Str.ofString "is_quoted"] pcP ⟨[], 0, Str.ofString "", ct0, false⟩ (by rfl) F10 (cb_drop N9 (by walk_at "SUB")) trivial (has_all ⟨rfl, rfl, rfl, rfl, trivial⟩) ⟨.nil, rfl, rfl, by show (Str.ofString "").length ≤ 0; decide +kernel, Nat.le_refl _⟩ ?turn ?done
  case turn =>
    rintro ⟨fvs, n, cur, ct, q⟩ pre post c t9 u h9 tk9 own hsplit hown - ⟨hp1, hp2, hp3, hp4, hp5⟩ F1 N1
    simp only at hp1 hp2 hp3 hp4 hp5 F1 N1
    have hpre : pre.length < 1000 := by
      have := congrArg List.length hsplit
      rw [KStt.codes_length, List.length_append, List.length_cons] at this
      omega
    have hsz : fvs.toArray.size ≤ sizeLine := by rw [List.size_toArray, sizeLine_eq]; omega
    have hoff1 : ∀ p ∈ news ++ own, p.1 ≠ fn := all_app hoff (fun p hp => hown p hp fn (.head _))
    have hP : pcP pre ⟨fvs, n, cur, ct, q⟩ := ⟨hp1, hp2, hp3, hp4, hp5⟩
    k_steps
    · have h1 := sg_t e34 (show (({ cps := #[c] } : PySem.Str) == Str.ofString "\"") = true by with_reducible assumption)
      have h2 := sg_t e44 (show (({ cps := #[c] } : PySem.Str) == Str.ofString ",") = true by with_reducible assumption)
      omega
    · have h1 := sg_t e34 (show (({ cps := #[c] } : PySem.Str) == Str.ofString "\"") = true by with_reducible assumption)
      have h2 := sg_t e44 (show (({ cps := #[c] } : PySem.Str) == Str.ofString ",") = true by with_reducible assumption)
      omega
    · have h1 := sg_t e34 (show (({ cps := #[c] } : PySem.Str) == Str.ofString "\"") = true by with_reducible assumption)
      have h2 := sg_f e44 (show (({ cps := #[c] } : PySem.Str) == Str.ofString ",") = false by with_reducible assumption)
      (with_reducible rename News _ _ _ _ => N9)
      exact kst_end (c := ⟨fvs, n, _, _, _⟩) (by k_asm) N9 (sub_apL sub_refl) (sub_apR sub_refl) rfl trivial (has_all ⟨rfl, rfl, rfl, rfl, trivial⟩) (by kst_same) (pc_go hP (by rw [if_pos h1]; cases q <;> rfl) (fun e => h2 e.1))
    · have h1 := sg_f e34 (show (({ cps := #[c] } : PySem.Str) == Str.ofString "\"") = false by with_reducible assumption)
      (with_reducible rename News _ _ _ _ => N9)
      exact kst_end (c := ⟨fvs, n, _, _, q⟩) (by k_asm) N9 (sub_apL sub_refl) (sub_apR sub_refl) rfl trivial (has_all ⟨rfl, rfl, rfl, rfl, trivial⟩) (by kst_same) (pc_go hP (by rw [if_neg h1]) (fun e => by have h := (show q = true by with_reducible assumption); rw [h] at e; cases e.2))
    · have h1 := sg_f e34 (show (({ cps := #[c] } : PySem.Str) == Str.ofString "\"") = false by with_reducible assumption)
      have h2 := sg_t e44 (show (({ cps := #[c] } : PySem.Str) == Str.ofString ",") = true by with_reducible assumption)
      (with_reducible rename News _ _ _ _ => N9)
      rw [List.push_toArray] at N9
      exact kst_end (c := ⟨fvs ++ [_], n + 1, _, _, q⟩) (by k_asm) N9 (sub_cons (.head _) (sub_tail (sub_apL sub_refl))) (sub_tail (sub_apR sub_refl)) rfl trivial (has_all ⟨rfl, rfl, rfl, rfl, trivial⟩) (by kst_same) (pc_cut hP h2 (by with_reducible assumption))
    · have h1 := sg_f e34 (show (({ cps := #[c] } : PySem.Str) == Str.ofString "\"") = false by with_reducible assumption)
      have h2 := sg_f e44 (show (({ cps := #[c] } : PySem.Str) == Str.ofString ",") = false by with_reducible assumption)
      (with_reducible rename News _ _ _ _ => N9)
      exact kst_end (c := ⟨fvs, n, _, _, q⟩) (by k_asm) N9 (sub_apL sub_refl) (sub_apR sub_refl) rfl trivial (has_all ⟨rfl, rfl, rfl, rfl, trivial⟩) (by kst_same) (pc_go hP (by rw [if_neg h1]) (fun e => h2 e.1))
  case done =>
    rintro ⟨fvs, n, cur, ct, q⟩ u h9 tk9 - ⟨hp1, hp2, hp3, hp4, hp5⟩ F1 N1
    simp only at hp1 hp2 hp3 hp4 hp5 F1 N1
    rw [KStt.codes_length] at hp4 hp5
    have hsz : fvs.toArray.size ≤ sizeLine := by rw [List.size_toArray, sizeLine_eq]; omega
    k_steps
    rename_i hh Fa Na kF kN Tc kX
    exact ret _ _ _ (by rw [List.map_append]; exact DatAll.append hp1 (by rw [← hp2]; exact .one (.str _ _))) (fun q hq => Heap.lt_size (N' q (.tail _ (.tail _ hq))).1) _ _ (by k_asm) (cb_drop kN (sub_cons (.head _) (sub_tail (sub_tail (sub_tail sub_refl)))))
end Mine
end
section
namespace Mine
theorem kw_W11_0 : True := by
  k_with_none
  w_top off
  k_with "exec Assign" => walk_at "FOLD"
  k_with "exec Return some" => walk_at "FOLD"
  k_with "exec If" => walk_at "FOLD"
  k_with "exec AugAssign" => walk_at "FOLD"
  k_with "exec Expr" => walk_at "FOLD"
  k_with "eval Tuple" => walk_at "FOLD"
  k_with "eval List" => walk_at "FOLD"
  k_with "eval BinOp" => walk_at "FOLD"
  k_with "eval Call" => walk_at "FOLD"
  k_with "eval Subscript" => walk_at "FOLD"
  k_with "eval IfExp" => walk_at "FOLD"
  k_with "isTrue BoolOp" => walk_at "FOLD"
  k_with "isTrue Compare" => walk_at "FOLD"
  k_with "eval Call Attribute" => walk_at "FOLD"
  k_with "FOLD" => ((fail_if_success (fail_if_success k_fold)); refine (let qk := _; let ek := _; (?_ : wpAny _ _ _ qk ek _)))
  k_with "execs cons" => (refine wp_tk s ?_; intro _)
  k_with "ENTER" => ((case k6 => k_is); (case k7 => k_is); (case k8 => ktr_room); (case k9 => exact BindsTo.of_eq rfl); (case c5 => decide); (case kB => exact locs rfl); (case c2 => exact rfl); (case c3 => exact rfl); (case c4 => exact rfl); k_whole)
  k_with "LpPost" => (dsimp only [LpPost])
  k_with "USE" => ((case k1 => k_asm); (case k2 => k_asm); (case k3 => k_asm); (case k4 => k_asm); (case k5 => k_asm); (case kK => first | exact rfl | assumption); (case kd => first | exact dp_lt (by with_reducible assumption) (by decide) | ktr_room); (case ku => first | exact un_lt (by with_reducible assumption) (by decide) | ktr_units))
  k_with "SIDE" => first | assumption | omega | (split <;> omega)
  k_with "call builtin:str.find" => (k_here; refine find_r (by decide +kernel) (by omega) ?_; intro _)
  k_with "SUB" => ((try simp only [List.cons_append, List.nil_append]); repeat (first | with_reducible exact sub_refl | with_reducible exact sub_nil | ((with_reducible refine sub_cons ?hm ?_); (case hm => k_mem)) | with_reducible refine sub_tail ?_ | with_reducible refine sub_apR ?_))
  k_with "WhlIf" => (refine whlIf_dec ?_ ?_ <;> intro _ <;> try (exfalso; omega))
  k_with "call builtin:abs" => (k_here; refine abs_z ?_; intro z9 _ _ _ z91 z92)
  k_with "binaryOp Mod int int" => (k_here; refine mod_p (by omega) ?_)
  k_with "binaryOp FloorDiv int int" => (k_here; refine div_p (by omega) (by omega) ?_)
  trivial
theorem kw_W11_m0 : True := by
  k_with "KALL" => (assumption)
  trivial
theorem kw_W11_m1 : True := by
  k_with "KMEM" => (first | with_reducible assumption | exact List.mem_cons_of_mem _ (by with_reducible assumption) | exact List.mem_append.mpr (.inl (by with_reducible assumption)) | (refine List.mem_append.mpr (.inr ?_); k_mem))
  trivial
theorem kw_W11_1 : True := by
  k_with "call builtin:len" => (k_here; (with_reducible show wpAny _ _ (call (Value.builtin "len") [Value.ref _]) _ _ _); refine len_L (by k_asm) (by k_dflt k_mem) (by omega) ?_)
  k_with "exec While" => (refine lp_start ?_)
  k_with "call ref" => (k_here; k_dflt (refine' Does.use (quoted_spec _ _ _ _ _ _ ?s1 ?s2 ?s3) ?k1 ?k2 ?k3 ?k4 ?k5 ?kK ?kd ?ku ?_); walk_at "USE"; (case s1 => walk_at "SIDE"); (case s2 => walk_at "SIDE"); (case s3 => walk_at "SIDE"); intro a9 t9 u9 _ _ _ l9 h9 tk9 F9 N9; (try dsimp only); (try k_fold))
  trivial
noncomputable def textF (x : PySem.Str) : Option PySem.Str :=
  if (Txt.slice x none (some 1) != PySem.Str.ofString "\"") = true then some x else if (quotedF x 0).2 = x.length then some (quotedF x 0).1 else none
theorem text_spec (w : World) (news : Ledger) (x : PySem.Str) (t : Tok) (hx : x.length ≤ 1000) :
   Does w 148 3 [.str x t] news (fun K => ∀ t, K (optV (textF x) t) news) := by
  unfold Does
  intro mean mg mb dp un gd cn cs a ccd cl outer A₀ base h₀ L m s Q E B F X N T hk hd hu ret
  refine wpAny_call ?_
  k_dflt (refine' code_def (binds := [(Str.ofString "item", .str x t)]) B F X N T rfl rfl hk ?k6 ?k7 ?k8 ?k9 ?kB ?_ ?c2 ?c3 ?c4 ?c5)
  walk_at "ENTER"
  intro g' L' h' FG' F' N' B' X' T'
  k_fold
  k_steps
  · unfold textF at ret
    rw [if_pos (by with_reducible assumption)] at ret
    exact ret _ _ _ (by k_asm) (by k_asm)
  · unfold textF at ret
    rw [if_neg (by intro h; exact absurd h (by rw [show (Txt.slice x none (some 1) != Str.ofString "\"") = false by with_reducible assumption]; decide)), if_pos (by with_reducible assumption)] at ret
    exact ret _ _ _ (by k_asm) (cb_drop (by k_asm) (by walk_at "SUB"))
  · unfold textF at ret
    rw [if_neg (by intro h; exact absurd h (by rw [show (Txt.slice x none (some 1) != Str.ofString "\"") = false by with_reducible assumption]; decide)), if_neg (by with_reducible assumption)] at ret
    exact ret 0 _ _ (by k_asm) (cb_drop (by k_asm) (by walk_at "SUB"))
noncomputable def bareS (c : Int) : Int × Int := if c ≠ 0 ∧ c % 10 = 0 then (c / 10, 1) else (c, 0)
inductive BaI (c : Int) (g' : Heap) (L' : Addr) (news : Ledger) (s : Shared) (q : Int × Int) (s1 : Shared) : Prop
  | mk (h : Heap) (tk : Nat) (t1 t2 : Tok) (u : PySem.Str → Option Value) (h0 : s1 = ⟨h, s.gens, s.drawn, tk, s.os⟩) (h1 : ((q.1 = c ∧ q.2 = 0) ∨ (c ≠ 0 ∧ c % 10 = 0 ∧ q.1 = c / 10 ∧ q.2 = 1))) (h2 : Fr g' L' h (fmu [(Str.ofString "number", .int q.1 t1), (Str.ofString "tens", .int q.2 t2)] u)) (h3 : News g' L' h news) : BaI c g' L' news s q s1
theorem bare_spec (w : World) (news : Ledger) (c : Int) (t : Tok) (hc : -99 ≤ c ∧ c ≤ 99) :
   Does w 234 2 [.int c t] news (fun K => ∀ a t1 t2, (∀ p ∈ news, p.1 < a) → K (.ref a) ((a, tupO [.int (bareS c).1 t1, .int (bareS c).2 t2]) :: news)) := by
  unfold Does
  intro mean mg mb dp un gd cn cs a ccd cl outer A₀ base h₀ L m s Q E B F X N T hk hd hu ret
  refine wpAny_call ?_
  k_dflt (refine' code_def (binds := [(Str.ofString "number", .int c t)]) B F X N T rfl rfl hk ?k6 ?k7 ?k8 ?k9 ?kB ?_ ?c2 ?c3 ?c4 ?c5)
  walk_at "ENTER"
  intro g' L' h' FG' F' N' B' X' T'
  k_fold
  k_steps
  refine lp_ind (BaI c g' L' news s) (fun q => 2 - q.2.toNat) ?_ (c, 0) _ ⟨_, _, _, _, _, rfl, .inl ⟨rfl, rfl⟩, Fr.toU (by k_asm) ⟨rfl, rfl, trivial⟩, by k_asm⟩
  rintro ⟨c1, e1⟩ _ ⟨h, tk, t1, t2, u, rfl, hI, F', N'⟩ IH
  simp only at hI F'
  refine lp_turn ?hE ?_
  case hE => passes_own
  k_steps
  · refine IH (c1 / 10, e1 + 1) _ ?_ ⟨_, _, _, _, _, rfl, ?_, Fr.toU (by k_asm) ⟨rfl, rfl, trivial⟩, cb_drop (by k_asm) (by walk_at "SUB")⟩
    · show 2 - (e1 + 1).toNat < 2 - e1.toNat
      omega
    · simp only; right; omega
  · have e : bareS c = (c1, e1) := by
      unfold bareS
      split
      · rcases hI with ⟨rfl, rfl⟩ | ⟨h1, h2, rfl, rfl⟩
        · omega
        · rfl
      · rcases hI with ⟨rfl, rfl⟩ | ⟨h1, h2, rfl, rfl⟩
        · rfl
        · omega
    rw [e] at ret
    exact ret _ _ _ (by with_reducible assumption) _ _ (by k_asm) (by k_asm)
  · have e : bareS c = (c1, e1) := by
      unfold bareS
      split
      · rcases hI with ⟨rfl, rfl⟩ | ⟨h1, h2, rfl, rfl⟩
        · omega
        · omega
      · rcases hI with ⟨rfl, rfl⟩ | ⟨h1, h2, rfl, rfl⟩
        · rfl
        · omega
    rw [e] at ret
    exact ret _ _ _ (by with_reducible assumption) _ _ (by k_asm) (by k_asm)
theorem next_spec (w : World) (news : Ledger) (cr sl : Addr) (us : List Value) (zs : List Int) (n k : Nat) (c : Int) (tc tm : Tok) (many : Int) (hm : 1 ≤ many ∧ many ≤ 31) (hs : (sl, listOf us.toArray k) ∈ news) (hz : IntsAre us zs) (hl : us.length ≤ 63) (hc : 0 ≤ c ∧ c ≤ 1000) (hoff : ∀ p ∈ news, p.1 ≠ cr) :
   Does w 227 2 [.ref cr, .int many tm] ((cr, listOf #[.int c tc, .ref sl] n) :: news) (fun K => ∀ r t t2, 0 ≤ r → r < many → K (.int r t) ((cr, listOf #[.int (c + 1) t2, .ref sl] n) :: news)) := by
  unfold Does
  intro mean mg mb dp un gd cn cs a ccd cl outer A₀ base h₀ L m s Q E B F X N T hk hd hu ret
  refine wpAny_call ?_
  k_dflt (refine' code_def (binds := [(Str.ofString "crate", .ref cr), (Str.ofString "many", .int many tm)]) B F X N T rfl rfl hk ?k6 ?k7 ?k8 ?k9 ?kB ?_ ?c2 ?c3 ?c4 ?c5)
  walk_at "ENTER"
  intro g' L' h' FG' F' N' B' X' T'
  k_fold
  k_steps
  · exact ret _ _ _ (Int.emod_nonneg _ (by omega)) (Int.emod_lt_of_pos _ (by omega)) _ _ (by k_asm) (by k_asm)
  · exact ret _ _ _ (Int.emod_nonneg _ (by omega)) (Int.emod_lt_of_pos _ (by omega)) _ _ (by k_asm) (by k_asm)
end Mine
end
section
namespace Mine
theorem kw_W12_0 : True := by
  k_with_none
  w_top off
  k_with "exec Assign" => walk_at "FOLD"
  k_with "exec Return some" => walk_at "FOLD"
  k_with "exec If" => walk_at "FOLD"
  k_with "exec AugAssign" => walk_at "FOLD"
  k_with "exec Expr" => walk_at "FOLD"
  k_with "eval Tuple" => walk_at "FOLD"
  k_with "eval List" => walk_at "FOLD"
  k_with "eval BinOp" => walk_at "FOLD"
  k_with "eval Call" => walk_at "FOLD"
  k_with "eval Subscript" => walk_at "FOLD"
  k_with "eval IfExp" => walk_at "FOLD"
  k_with "isTrue BoolOp" => walk_at "FOLD"
  k_with "isTrue Compare" => walk_at "FOLD"
  k_with "eval Call Attribute" => walk_at "FOLD"
  k_with "FOLD" => ((fail_if_success (fail_if_success k_fold)); refine (let qk := _; let ek := _; (?_ : wpAny _ _ _ qk ek _)))
  k_with "execs cons" => (refine wp_tk s ?_; intro _)
  k_with "ENTER" => ((case k6 => k_is); (case k7 => k_is); (case k8 => ktr_room); (case k9 => exact BindsTo.of_eq rfl); (case c5 => decide); (case kB => exact locs rfl); (case c2 => exact rfl); (case c3 => exact rfl); (case c4 => exact rfl); k_whole)
  k_with "LpPost" => (dsimp only [LpPost])
  k_with "USE" => ((case k1 => k_asm); (case k2 => k_asm); (case k3 => k_asm); (case k4 => k_asm); (case k5 => k_asm); (case kK => first | exact rfl | assumption); (case kd => first | exact dp_lt (by with_reducible assumption) (by decide) | ktr_room); (case ku => first | exact un_lt (by with_reducible assumption) (by decide) | ktr_units))
  k_with "SIDE" => first | assumption | omega | (split <;> omega)
  k_with "call builtin:str.find" => (k_here; refine find_r (by decide +kernel) (by omega) ?_; intro _)
  k_with "SUB" => ((try simp only [List.cons_append, List.nil_append]); repeat (first | with_reducible exact sub_refl | with_reducible exact sub_nil | ((with_reducible refine sub_cons ?hm ?_); (case hm => k_mem)) | with_reducible refine sub_tail ?_ | with_reducible refine sub_apR ?_))
  k_with "WhlIf" => (refine whlIf_dec ?_ ?_ <;> intro _ <;> try (exfalso; omega))
  k_with "call builtin:abs" => (k_here; refine abs_z ?_; intro z9 _ _ _ z91 z92)
  k_with "binaryOp Mod int int" => (k_here; refine mod_p (by omega) ?_)
  k_with "binaryOp FloorDiv int int" => (k_here; refine div_p (by omega) (by omega) ?_)
  trivial
theorem kw_W12_m0 : True := by
  k_with "KALL" => (assumption)
  trivial
theorem kw_W12_1 : True := by
  k_with "call ref" => (k_here; k_dflt (refine' Does.use (bare_spec _ _ _ _ ?s1) ?k1 ?k2 ?k3 ?k4 ?k5 ?kK ?kd ?ku ?_); walk_at "USE"; (case s1 => constructor <;> omega); intro a9 t9 u9 l9 h9 tk9 F9 N9; (have lc9 := l9 (cr, _) (by k_dflt k_mem)); (have ln9 : ∀ p ∈ news, p.1 < a9 := fun p hp => l9 p ((by walk_at "SUB" : ∀ p ∈ news, p ∈ _) p hp)); (try dsimp only at lc9); (try dsimp only); (try k_fold))
  k_with "call ref" => (k_here; k_dflt (refine' Does.use (next_spec _ _ _ _ _ _ _ _ _ _ _ _ ?s1 ?s2 ?s3 ?s4 ?s5 ?s6) ?k1 ?k2 ?k3 ?k4 ?k5 ?kK ?kd ?ku ?_); walk_at "USE"; (case s1 => decide); (case s2 => with_reducible assumption); (case s3 => with_reducible assumption); (case s4 => assumption); (case s5 => constructor <;> omega); (case s6 => with_reducible assumption); intro r9 t9 u9 r90 r91 h9 tk9 F9 N9; (try dsimp only); (try k_fold))
  trivial
theorem pick_s {prog : Program} {w : World} {A : Around} {E : Value → Shared → Prop} {s : Shared} {h₀ : Heap} {L l : Addr} {news : Ledger} {value slice : PySem.Expr} {vs : List Value} {ws : List PySem.Str} {n : Nat} {i : Int} {u : Tok} {Q : Value → Shared → Prop} (N : News h₀ L s.heap news) (hm : (l, listOf vs.toArray n) ∈ news) (hw : StrsAre vs ws) (h0 : 0 ≤ i) (h1 : i < (ws.length : Int)) (hf : ws.length ≤ 100)
    (hs : subscripted slice false (.ref l) (.int i u) = operate [.ref l, .int i u] (getItem (.ref l) (.int i u))) (h : ∀ t', (ws.getD i.toNat PySem.Str.empty).length ≤ 100 → Q (.str (ws.getD i.toNat PySem.Str.empty) t') s) (hb : ∀ x ∈ ws, x.length ≤ 100) :
    wpAny (model prog w) A (subscriptTail value slice (.ref l) (.int i u)) Q E s := by
  have hl : s.heap.IsList l vs.toArray := News.isList N hm
  refine KTb.item_list hl hw h0 h1 (by omega) (fun t' hlt => h t' ?_) hs
  rw [List.getD_eq_getElem?_getD, List.getElem?_eq_getElem hlt]
  exact hb _ (List.getElem_mem hlt)
theorem all_len {ws : List PySem.Str} (h : ws.all (fun x => decide (x.length ≤ 100)) = true) : ∀ x ∈ ws, x.length ≤ 100 := fun x hx => of_decide_eq_true (List.all_eq_true.mp h x hx)
theorem kw_W12_2 : True := by
  k_with "subscriptTail" => (k_here; (with_reducible show wpAny _ _ (subscriptTail _ _ (Value.ref _) (Value.int _ _)) _ _ _); refine pick_s (by k_asm) (by k_dflt k_mem) (by kct_strs) (by omega) (by (simp only [List.length_cons, List.length_nil]); omega) (by decide) (by with_unfolding_all rfl) ?_ (all_len (by decide +kernel)); intro _ lw9)
  trivial
theorem pick_v {prog : Program} {w : World} {A : Around} {E : Value → Shared → Prop} {s : Shared} {h₀ : Heap} {L l : Addr} {news : Ledger} {value slice : PySem.Expr} {vs : List Value} {n : Nat} {i : Int} {u : Tok} {Q : Value → Shared → Prop} (N : News h₀ L s.heap news) (hm : (l, listOf vs.toArray n) ∈ news) (h0 : 0 ≤ i) (h1 : i < (vs.length : Int)) (hf : vs.length ≤ 100)
    (hs : subscripted slice false (.ref l) (.int i u) = operate [.ref l, .int i u] (getItem (.ref l) (.int i u))) (h : ∀ (j : Nat) v, (j : Int) = i → vs[j]? = some v → Q v s) :
    wpAny (model prog w) A (subscriptTail value slice (.ref l) (.int i u)) Q E s := by
  have hl : s.heap.IsList l vs.toArray := News.isList N hm
  have hlt : i.toNat < vs.length := by omega
  exact tail_any hl.typeIs slot_list_getitem.lookup (wpAny_getItem_list hl h0 (by omega) (x := vs[i.toNat]) (by simp [hlt]) (h i.toNat _ (by omega) (List.getElem?_eq_getElem hlt))) hs
@[reducible] noncomputable def sO (x : String) : PySem.Str := PySem.Str.ofString x
noncomputable def words : List PySem.Str := [sO "ab", sO "a b", sO "5x", sO "-"]
noncomputable def toldF (n : Int) : PySem.Str := sO (toString n)
noncomputable def wordF (n : Int) : PySem.Str := words.getD (n % 4).toNat PySem.Str.empty
noncomputable def preF (n : Int) : PySem.Str := [sO "", sO "  "].getD (n % 2).toNat PySem.Str.empty
noncomputable def endF (n : Int) : PySem.Str := [sO "", sO " ", sO " \t"].getD (n % 3).toNat PySem.Str.empty
noncomputable def bareD (c : Int) : Dat := .tuple [.int (bareS c).1, .int (bareS c).2]
noncomputable def plusF (n : Int) : PySem.Str := sO "+" ++ Txt.slice (toldF n) (some (-1)) none
noncomputable def lfTab (n : Int) : List (PySem.Str × Option PySem.Str × Dat) :=
  [(toldF n, some (toldF n), bareD n), (sO "\"" ++ toldF n ++ sO "\"", some (toldF n), .none), (wordF n, some (wordF n), .none), (sO "\"a,b:" ++ toldF n ++ sO "\"", some (sO "a,b:" ++ toldF n), .none), (sO "", some (sO ""), .int 0), (sO "\"\"", some (sO ""), .none),
   (sO "\"" ++ toldF n ++ sO "\" x", none, .none), (plusF n, some (plusF n), bareD ((n.natAbs : Int) % 10)), (sO "\" " ++ wordF n ++ sO " \"", some (sO " " ++ wordF n ++ sO " "), .none)]
noncomputable def lfOne (last : Bool) (n : Int) (j : Nat) (q : PySem.Str × Option PySem.Str × Dat) : PySem.Str × Option PySem.Str × Dat :=
  if last = true ∧ j = 8 ∧ 9 < n then (preF n ++ (sO "\" " ++ wordF n), some (sO " " ++ wordF n), q.2.2) else (preF n ++ (q.1 ++ endF n), q.2)
noncomputable def oDat : Option PySem.Str → Dat
  | some x => .str x
  | none => .none
/-- what _law_field gives: the written field and its value -/
noncomputable def LfR (last : Bool) (kind : PySem.Str) (W : PySem.Str) (d : Dat) : Prop :=
  ∃ (j : Nat) (n : Int) (q : PySem.Str × Option PySem.Str × Dat), -5 ≤ n ∧ n ≤ 25 ∧ (lfTab n)[j]? = some q ∧ W = (lfOne last n j q).1 ∧ d = if (kind == kText) = true then oDat (lfOne last n j q).2.1 else (lfOne last n j q).2.2
theorem told_all : (List.range 31).all (fun i => (lfTab ((i : Int) - 5)).all (fun q => decide (q.1.length ≤ 100))) = true := by decide +kernel
theorem lf_len {n : Int} {j : Nat} {q : PySem.Str × Option PySem.Str × Dat} (h0 : -5 ≤ n) (h1 : n ≤ 25) (h : (lfTab n)[j]? = some q) : q.1.length ≤ 100 := by
  have := List.all_eq_true.mp told_all (n + 5).toNat (List.mem_range.mpr (by omega))
  have e : (((n + 5).toNat : Nat) : Int) - 5 = n := by omega
  rw [e] at this
  exact of_decide_eq_true (List.all_eq_true.mp this q (List.mem_of_getElem? h))
theorem lf_neg_t {last : Bool} {kind : PySem.Str} {j : Nat} {n : Int} {q : PySem.Str × Option PySem.Str × Dat} (h0 : -5 ≤ n) (h1 : n ≤ 25) (hq : (lfTab n)[j]? = some q) (hk : (kind == kText) = true) (hn : ¬ (last = true ∧ j = 8 ∧ 9 < n)) : LfR last kind (preF n ++ (q.1 ++ endF n)) (oDat q.2.1) :=
  ⟨j, n, q, h0, h1, hq, by rw [lfOne, if_neg hn], by rw [if_pos hk, lfOne, if_neg hn]⟩
theorem lf_neg_n {last : Bool} {kind : PySem.Str} {j : Nat} {n : Int} {q : PySem.Str × Option PySem.Str × Dat} (h0 : -5 ≤ n) (h1 : n ≤ 25) (hq : (lfTab n)[j]? = some q) (hk : (kind == kText) = false) (hn : ¬ (last = true ∧ j = 8 ∧ 9 < n)) : LfR last kind (preF n ++ (q.1 ++ endF n)) q.2.2 :=
  ⟨j, n, q, h0, h1, hq, by rw [lfOne, if_neg hn], by rw [if_neg (by rw [hk]; exact Bool.false_ne_true), lfOne, if_neg hn]⟩
theorem lf_pos_t {last : Bool} {kind : PySem.Str} {j : Nat} {n : Int} {q : PySem.Str × Option PySem.Str × Dat} (h0 : -5 ≤ n) (h1 : n ≤ 25) (hq : (lfTab n)[j]? = some q) (hk : (kind == kText) = true) (hn : last = true ∧ j = 8 ∧ 9 < n) : LfR last kind (preF n ++ (sO "\" " ++ wordF n)) (.str (sO " " ++ wordF n)) :=
  ⟨j, n, q, h0, h1, hq, by rw [lfOne, if_pos hn], by rw [if_pos hk, lfOne, if_pos hn]; rfl⟩
theorem lf_pos_n {last : Bool} {kind : PySem.Str} {j : Nat} {n : Int} {q : PySem.Str × Option PySem.Str × Dat} (h0 : -5 ≤ n) (h1 : n ≤ 25) (hq : (lfTab n)[j]? = some q) (hk : (kind == kText) = false) (hn : last = true ∧ j = 8 ∧ 9 < n) : LfR last kind (preF n ++ (sO "\" " ++ wordF n)) q.2.2 :=
  ⟨j, n, q, h0, h1, hq, by rw [lfOne, if_pos hn], by rw [if_neg (by rw [hk]; exact Bool.false_ne_true), lfOne, if_pos hn]⟩
theorem lf_ord1 {news tl : Ledger} {p : Addr × Obj} {a : Addr} {o : Obj} (h : ∀ q ∈ news, ∀ p ∈ tl, q.1 < p.1) (l : AllLt a (tl ++ p :: news)) : ∀ q ∈ news, ∀ p ∈ (a, o) :: tl, q.1 < p.1 := fun q hq p' hp => by
  rcases List.mem_cons.mp hp with rfl | hp
  · exact ktn_ltOf l q (List.mem_append.mpr (.inr (.tail _ hq)))
  · exact h q hq p' hp
theorem lf_ord2 {news tl : Ledger} {cr : Addr} {oc : Obj} {a : Addr} {o : Obj} (h : ∀ p ∈ tl, cr < p.1) (l : AllLt a (tl ++ (cr, oc) :: news)) : ∀ p ∈ (a, o) :: tl, cr < p.1 := fun p' hp => by
  rcases List.mem_cons.mp hp with rfl | hp
  · exact ktn_ltOf l (cr, oc) (List.mem_append.mpr (.inr (.head _)))
  · exact h p' hp
theorem lf_ord3 {tl B : Ledger} {a : Addr} (l : AllLt a (tl ++ B)) : ∀ p ∈ tl, p.1 < a := fun p hp => ktn_ltOf l p (List.mem_append.mpr (.inl hp))
theorem lf_cases {h₀ h : Heap} {L : Addr} {news : Ledger} {n : Int} {j nl : Nat} {v : Value} {l D0 D1 D2 D3 D4 D5 D6 D7 D8 a1 a2 cr : Addr} {p1 p2 p3 : Addr × Obj} {oc : Obj} {t0 t1 t2 t3 t4 t5 t6 t7 t8 u0 u1 u2 u3 u4 u5 u7 u8 w4 b1 b2 b3 b4 : Tok}
    (N : News h₀ L h ((l, listOf [.ref D0, .ref D1, .ref D2, .ref D3, .ref D4, .ref D5, .ref D6, .ref D7, .ref D8].toArray nl) :: (D8, tupO [.str (sO "\" " ++ wordF n ++ sO " \"") t8, .str (sO " " ++ wordF n ++ sO " ") u8, .none]) :: (D7, tupO [.str (plusF n) t7, .str (plusF n) u7, .ref a2]) :: (a2, tupO [.int (bareS ((n.natAbs : Int) % 10)).1 b3, .int (bareS ((n.natAbs : Int) % 10)).2 b4]) :: (D6, tupO [.str (sO "\"" ++ toldF n ++ sO "\" x") t6, .none, .none]) :: (D5, tupO [.str (sO "\"\"") t5, .str (sO "") u5, .none]) :: (D4, tupO [.str (sO "") t4, .str (sO "") u4, .int 0 w4]) :: (D3, tupO [.str (sO "\"a,b:" ++ toldF n ++ sO "\"") t3, .str (sO "a,b:" ++ toldF n) u3, .none]) :: (D2, tupO [.str (wordF n) t2, .str (wordF n) u2, .none]) :: (D1, tupO [.str (sO "\"" ++ toldF n ++ sO "\"") t1, .str (toldF n) u1, .none]) :: (D0, tupO [.str (toldF n) t0, .str (toldF n) u0, .ref a1]) :: (a1, tupO [.int (bareS n).1 b1, .int (bareS n).2 b2]) :: p1 :: p2 :: p3 :: (cr, oc) :: news)) (h1 : ∀ p ∈ news, p.1 < a1) (h2 : ∀ p ∈ news, p.1 < a2) (c1 : cr < a1) (c2 : cr < a2) (hv : [Value.ref D0, .ref D1, .ref D2, .ref D3, .ref D4, .ref D5, .ref D6, .ref D7, .ref D8][j]? = some v) :
    ∃ (D : Addr) (q : PySem.Str × Option PySem.Str × Dat) (tq : Tok) (tv gv : Value) (tl : Ledger), v = .ref D ∧ (lfTab n)[j]? = some q ∧ DatIn tl tv (oDat q.2.1) ∧ DatIn tl gv q.2.2 ∧ News h₀ L h ((D, tupO [.str q.1 tq, tv, gv]) :: (tl ++ (cr, oc) :: news)) ∧ (∀ q ∈ news, ∀ p ∈ tl, q.1 < p.1) ∧ (∀ p ∈ tl, cr < p.1) := by
  rcases j with _ | _ | _ | _ | _ | _ | _ | _ | _ | j
  · cases hv; exact ⟨_, _, _, _, _, [_], rfl, rfl, .str _ _, .tuple (.head _) (.cons (.int _ _) (.cons (.int _ _) .nil)), (fun p hp => N p ((sub_cons (.tail _ (.tail _ (.tail _ (.tail _ (.tail _ (.tail _ (.tail _ (.tail _ (.tail _ (.tail _ (.head _))))))))))) (sub_cons (.tail _ (.tail _ (.tail _ (.tail _ (.tail _ (.tail _ (.tail _ (.tail _ (.tail _ (.tail _ (.tail _ (.head _)))))))))))) (sub_cons (.tail _ (.tail _ (.tail _ (.tail _ (.tail _ (.tail _ (.tail _ (.tail _ (.tail _ (.tail _ (.tail _ (.tail _ (.tail _ (.tail _ (.tail _ (.head _)))))))))))))))) (sub_tail (sub_tail (sub_tail (sub_tail (sub_tail (sub_tail (sub_tail (sub_tail (sub_tail (sub_tail (sub_tail (sub_tail (sub_tail (sub_tail (sub_tail (sub_tail (sub_refl)))))))))))))))))))) p hp)), (fun q hq p hp => by rw [List.mem_singleton.mp hp]; exact h1 q hq), (fun p hp => by rw [List.mem_singleton.mp hp]; exact c1)⟩
  · cases hv; exact ⟨_, _, _, _, _, [], rfl, rfl, .str _ _, .none, (fun p hp => N p ((sub_cons (.tail _ (.tail _ (.tail _ (.tail _ (.tail _ (.tail _ (.tail _ (.tail _ (.tail _ (.head _)))))))))) (sub_cons (.tail _ (.tail _ (.tail _ (.tail _ (.tail _ (.tail _ (.tail _ (.tail _ (.tail _ (.tail _ (.tail _ (.tail _ (.tail _ (.tail _ (.tail _ (.head _)))))))))))))))) (sub_tail (sub_tail (sub_tail (sub_tail (sub_tail (sub_tail (sub_tail (sub_tail (sub_tail (sub_tail (sub_tail (sub_tail (sub_tail (sub_tail (sub_tail (sub_tail (sub_refl))))))))))))))))))) p hp)), (fun _ _ _ h => nomatch h), (fun _ h => nomatch h)⟩
  · cases hv; exact ⟨_, _, _, _, _, [], rfl, rfl, .str _ _, .none, (fun p hp => N p ((sub_cons (.tail _ (.tail _ (.tail _ (.tail _ (.tail _ (.tail _ (.tail _ (.tail _ (.head _))))))))) (sub_cons (.tail _ (.tail _ (.tail _ (.tail _ (.tail _ (.tail _ (.tail _ (.tail _ (.tail _ (.tail _ (.tail _ (.tail _ (.tail _ (.tail _ (.tail _ (.head _)))))))))))))))) (sub_tail (sub_tail (sub_tail (sub_tail (sub_tail (sub_tail (sub_tail (sub_tail (sub_tail (sub_tail (sub_tail (sub_tail (sub_tail (sub_tail (sub_tail (sub_tail (sub_refl))))))))))))))))))) p hp)), (fun _ _ _ h => nomatch h), (fun _ h => nomatch h)⟩
  · cases hv; exact ⟨_, _, _, _, _, [], rfl, rfl, .str _ _, .none, (fun p hp => N p ((sub_cons (.tail _ (.tail _ (.tail _ (.tail _ (.tail _ (.tail _ (.tail _ (.head _)))))))) (sub_cons (.tail _ (.tail _ (.tail _ (.tail _ (.tail _ (.tail _ (.tail _ (.tail _ (.tail _ (.tail _ (.tail _ (.tail _ (.tail _ (.tail _ (.tail _ (.head _)))))))))))))))) (sub_tail (sub_tail (sub_tail (sub_tail (sub_tail (sub_tail (sub_tail (sub_tail (sub_tail (sub_tail (sub_tail (sub_tail (sub_tail (sub_tail (sub_tail (sub_tail (sub_refl))))))))))))))))))) p hp)), (fun _ _ _ h => nomatch h), (fun _ h => nomatch h)⟩
  · cases hv; exact ⟨_, _, _, _, _, [], rfl, rfl, .str _ _, .int _ _, (fun p hp => N p ((sub_cons (.tail _ (.tail _ (.tail _ (.tail _ (.tail _ (.tail _ (.head _))))))) (sub_cons (.tail _ (.tail _ (.tail _ (.tail _ (.tail _ (.tail _ (.tail _ (.tail _ (.tail _ (.tail _ (.tail _ (.tail _ (.tail _ (.tail _ (.tail _ (.head _)))))))))))))))) (sub_tail (sub_tail (sub_tail (sub_tail (sub_tail (sub_tail (sub_tail (sub_tail (sub_tail (sub_tail (sub_tail (sub_tail (sub_tail (sub_tail (sub_tail (sub_tail (sub_refl))))))))))))))))))) p hp)), (fun _ _ _ h => nomatch h), (fun _ h => nomatch h)⟩
  · cases hv; exact ⟨_, _, _, _, _, [], rfl, rfl, .str _ _, .none, (fun p hp => N p ((sub_cons (.tail _ (.tail _ (.tail _ (.tail _ (.tail _ (.head _)))))) (sub_cons (.tail _ (.tail _ (.tail _ (.tail _ (.tail _ (.tail _ (.tail _ (.tail _ (.tail _ (.tail _ (.tail _ (.tail _ (.tail _ (.tail _ (.tail _ (.head _)))))))))))))))) (sub_tail (sub_tail (sub_tail (sub_tail (sub_tail (sub_tail (sub_tail (sub_tail (sub_tail (sub_tail (sub_tail (sub_tail (sub_tail (sub_tail (sub_tail (sub_tail (sub_refl))))))))))))))))))) p hp)), (fun _ _ _ h => nomatch h), (fun _ h => nomatch h)⟩
  · cases hv; exact ⟨_, _, _, _, _, [], rfl, rfl, .none, .none, (fun p hp => N p ((sub_cons (.tail _ (.tail _ (.tail _ (.tail _ (.head _))))) (sub_cons (.tail _ (.tail _ (.tail _ (.tail _ (.tail _ (.tail _ (.tail _ (.tail _ (.tail _ (.tail _ (.tail _ (.tail _ (.tail _ (.tail _ (.tail _ (.head _)))))))))))))))) (sub_tail (sub_tail (sub_tail (sub_tail (sub_tail (sub_tail (sub_tail (sub_tail (sub_tail (sub_tail (sub_tail (sub_tail (sub_tail (sub_tail (sub_tail (sub_tail (sub_refl))))))))))))))))))) p hp)), (fun _ _ _ h => nomatch h), (fun _ h => nomatch h)⟩
  · cases hv; exact ⟨_, _, _, _, _, [_], rfl, rfl, .str _ _, .tuple (.head _) (.cons (.int _ _) (.cons (.int _ _) .nil)), (fun p hp => N p ((sub_cons (.tail _ (.tail _ (.head _))) (sub_cons (.tail _ (.tail _ (.tail _ (.head _)))) (sub_cons (.tail _ (.tail _ (.tail _ (.tail _ (.tail _ (.tail _ (.tail _ (.tail _ (.tail _ (.tail _ (.tail _ (.tail _ (.tail _ (.tail _ (.tail _ (.head _)))))))))))))))) (sub_tail (sub_tail (sub_tail (sub_tail (sub_tail (sub_tail (sub_tail (sub_tail (sub_tail (sub_tail (sub_tail (sub_tail (sub_tail (sub_tail (sub_tail (sub_tail (sub_refl)))))))))))))))))))) p hp)), (fun q hq p hp => by rw [List.mem_singleton.mp hp]; exact h2 q hq), (fun p hp => by rw [List.mem_singleton.mp hp]; exact c2)⟩
  · cases hv; exact ⟨_, _, _, _, _, [], rfl, rfl, .str _ _, .none, (fun p hp => N p ((sub_cons (.tail _ (.head _)) (sub_cons (.tail _ (.tail _ (.tail _ (.tail _ (.tail _ (.tail _ (.tail _ (.tail _ (.tail _ (.tail _ (.tail _ (.tail _ (.tail _ (.tail _ (.tail _ (.head _)))))))))))))))) (sub_tail (sub_tail (sub_tail (sub_tail (sub_tail (sub_tail (sub_tail (sub_tail (sub_tail (sub_tail (sub_tail (sub_tail (sub_tail (sub_tail (sub_tail (sub_tail (sub_refl))))))))))))))))))) p hp)), (fun _ _ _ h => nomatch h), (fun _ h => nomatch h)⟩
  · cases hv
noncomputable def LfMid (last : Bool) (n : Int) (j : Nat) (q : PySem.Str × Option PySem.Str × Dat) (tv : Value) (W : PySem.Str) (tx : Value) : Prop :=
  ((last = true ∧ j = 8 ∧ 9 < n) ∧ W = sO "\" " ++ wordF n ∧ ∃ t, tx = .str (sO " " ++ wordF n) t) ∨ (¬ (last = true ∧ j = 8 ∧ 9 < n) ∧ W = q.1 ++ endF n ∧ tx = tv)
theorem lf_end_t {last : Bool} {kind : PySem.Str} {j : Nat} {n : Int} {q : PySem.Str × Option PySem.Str × Dat} {tv tx : Value} {W : PySem.Str} {tl : Ledger} (h0 : -5 ≤ n) (h1 : n ≤ 25) (hq : (lfTab n)[j]? = some q) (hk : (kind == kText) = true) (hd : DatIn tl tv (oDat q.2.1)) (M : LfMid last n j q tv W tx) : ∃ d, LfR last kind (preF n ++ W) d ∧ DatIn tl tx d := by
  rcases M with ⟨h, rfl, t, rfl⟩ | ⟨h, rfl, rfl⟩
  · exact ⟨_, lf_pos_t h0 h1 hq hk h, .str _ _⟩
  · exact ⟨_, lf_neg_t h0 h1 hq hk h, hd⟩
theorem lf_end_n {last : Bool} {kind : PySem.Str} {j : Nat} {n : Int} {q : PySem.Str × Option PySem.Str × Dat} {tv tx : Value} {W : PySem.Str} (h0 : -5 ≤ n) (h1 : n ≤ 25) (hq : (lfTab n)[j]? = some q) (hk : (kind == kText) = false) (M : LfMid last n j q tv W tx) : LfR last kind (preF n ++ W) q.2.2 := by
  rcases M with ⟨h, rfl, -⟩ | ⟨h, rfl, -⟩
  · exact lf_pos_n h0 h1 hq hk h
  · exact lf_neg_n h0 h1 hq hk h
theorem lf_mid_len {last : Bool} {n : Int} {j : Nat} {q : PySem.Str × Option PySem.Str × Dat} {tv tx : Value} {W : PySem.Str} (hl : q.1.length ≤ 100) (M : LfMid last n j q tv W tx) : W.length ≤ 300 := by
  rcases M with ⟨h, rfl, -⟩ | ⟨h, rfl, -⟩
  · have h1 : (wordF n).length ≤ 100 := by
      unfold wordF
      rcases Nat.lt_or_ge (n % 4).toNat words.length with hh | hh
      · rw [List.getD_eq_getElem?_getD, List.getElem?_eq_getElem hh]
        exact all_len (ws := words) (by decide +kernel) _ (List.getElem_mem hh)
      · rw [List.getD_eq_getElem?_getD, List.getElem?_eq_none hh]; exact Nat.zero_le _
    have h2 : (sO "\" ").length ≤ 100 := by decide +kernel
    rw [PySem.Str.length_append]; omega
  · have h1 : (endF n).length ≤ 100 := by
      unfold endF
      rcases Nat.lt_or_ge (n % 3).toNat [sO "", sO " ", sO " \t"].length with hh | hh
      · rw [List.getD_eq_getElem?_getD, List.getElem?_eq_getElem hh]
        exact all_len (ws := [sO "", sO " ", sO " \t"]) (by decide +kernel) _ (List.getElem_mem hh)
      · rw [List.getD_eq_getElem?_getD, List.getElem?_eq_none hh]; exact Nat.zero_le _
    rw [PySem.Str.length_append]; omega
noncomputable def LfJ (last : Bool) (n : Int) (j : Nat) (q : PySem.Str × Option PySem.Str × Dat) (tv gv : Value) (kind : PySem.Str) (tm : Tok) (g' : Heap) (L' : Addr) (tl news : Ledger) (cr sl : Addr) (c2 : Int) (k : Nat) (g : Array GenState) (dr : Drawn) (o : OsState) (f : Flow) (s' : Shared) : Prop :=
  f = .next ∧ ∃ (W : PySem.Str) (tW : Tok) (tx : Value) (m' : PySem.Str → Option Value) (h' : Heap) (tk' : Nat) (tn u : Tok), LfMid last n j q tv W tx ∧ s' = ⟨h', g, dr, tk', o⟩ ∧ Has m' [(Str.ofString "kind", .str kind tm), (Str.ofString "number", .int n tn), (Str.ofString "written", .str W tW), (Str.ofString "text", tx), (Str.ofString "gives", gv)] ∧ Fr g' L' h' m' ∧ News g' L' h' (tl ++ (cr, listOf #[.int c2 u, .ref sl] k) :: news)
theorem LfJ.mk {last : Bool} {n : Int} {j : Nat} {q : PySem.Str × Option PySem.Str × Dat} {tv gv tx : Value} {kind W : PySem.Str} {tm tn tW u : Tok} {g' h' : Heap} {L' cr sl : Addr} {tl news : Ledger} {c2 : Int} {k : Nat} {g : Array GenState} {dr : Drawn} {o : OsState} {tk' : Nat} {m' : PySem.Str → Option Value}
    (F : Fr g' L' h' m') (H : Has m' [(Str.ofString "kind", .str kind tm), (Str.ofString "number", .int n tn), (Str.ofString "written", .str W tW), (Str.ofString "text", tx), (Str.ofString "gives", gv)]) (N : News g' L' h' (tl ++ (cr, listOf #[.int c2 u, .ref sl] k) :: news)) (M : LfMid last n j q tv W tx) : LfJ last n j q tv gv kind tm g' L' tl news cr sl c2 k g dr o .next ⟨h', g, dr, tk', o⟩ :=
  ⟨rfl, W, tW, tx, m', h', tk', tn, u, M, rfl, H, F, N⟩
theorem lfield_spec (w : World) (news : Ledger) (cr sl : Addr) (us : List Value) (zs : List Int) (n k : Nat) (c : Int) (tc tm : Tok) (kind : PySem.Str) (last : Bool) (hs : (sl, listOf us.toArray k) ∈ news) (hz : IntsAre us zs) (hl : us.length ≤ 63) (hc : 0 ≤ c ∧ c ≤ 900) (hoff : ∀ p ∈ news, p.1 ≠ cr) :
   Does w 241 5 [.ref cr, .str kind tm, .bool last] ((cr, listOf #[.int c tc, .ref sl] n) :: news) (fun K => ∀ t2 a t3 W v d tl, LfR last kind W d → DatIn tl v d → (∀ q ∈ news, ∀ p ∈ (a, tupO [.str W t3, v]) :: tl, q.1 < p.1) → (∀ p ∈ (a, tupO [.str W t3, v]) :: tl, cr < p.1) → (∀ p ∈ tl, p.1 < a) → K (.ref a) ((a, tupO [.str W t3, v]) :: (tl ++ (cr, listOf #[.int (c + 1 + 1) t2, .ref sl] n) :: news))) := by
  unfold Does
  intro mean mg mb dp un gd cn cs a ccd cl outer A₀ base h₀ L m s Q E B F X N T hk hd hu ret
  refine wpAny_call ?_
  k_dflt (refine' code_def (binds := [(Str.ofString "crate", .ref cr), (Str.ofString "kind", .str kind tm), (Str.ofString "is_last", .bool last)]) B F X N T rfl rfl hk ?k6 ?k7 ?k8 ?k9 ?kB ?_ ?c2 ?c3 ?c4 ?c5)
  walk_at "ENTER"
  intro g' L' h' FG' F' N' B' X' T'
  k_fold
  k_with "exec If" => (refine hold ?_)
  k_steps
  obtain rfl : z9 = ((r9 - 5).natAbs : Int) := by omega
  (with_reducible rename News _ _ _ _ => N9)
  refine pick_v N9 (.head _) (by omega) (by (simp only [List.length_cons, List.length_nil]); omega) (by simp only [List.length_cons, List.length_nil]; omega) (by with_unfolding_all rfl) (fun j v hj hv => ?_)
  obtain ⟨D, q, tq, tv, gv, tl, rfl, hq, hd1, hd2, N10, ho1, ho2⟩ := lf_cases (n := r9 - 5) N9 (by with_reducible assumption) (by with_reducible assumption) (by with_reducible assumption) (by with_reducible assumption) hv
  have hql : q.1.length ≤ 100 := lf_len (by omega) (by omega) hq
  have hn0 : -5 ≤ r9 - 5 := by omega
  have hn1 : r9 - 5 ≤ 25 := by omega
  k_steps
  unfold Hold
  refine wp_join (LfJ last (r9 - 5) j q tv gv kind tm g' L' tl news cr sl (c + 1 + 1) n s.gens s.drawn s.os) ?_ ?_
  · k_with "exec If" => (refine wpAny_If ?_)
    k_steps
    · (with_reducible rename Fr _ _ _ _ => F9)
      (with_reducible rename News _ _ _ _ => N9)
      exact LfJ.mk F9 ⟨rfl, rfl, rfl, rfl, rfl, trivial⟩ (cb_drop N9 (sub_tail (sub_tail sub_refl))) (.inl ⟨⟨by with_reducible assumption, by omega, by omega⟩, rfl, _, rfl⟩)
    · (with_reducible rename Fr _ _ _ _ => F9)
      (with_reducible rename News _ _ _ _ => N9)
      exact LfJ.mk F9 ⟨rfl, rfl, rfl, rfl, rfl, trivial⟩ (cb_drop N9 (sub_tail (sub_tail sub_refl))) (.inr ⟨fun e => by omega, rfl, rfl⟩)
    · (with_reducible rename Fr _ _ _ _ => F9)
      (with_reducible rename News _ _ _ _ => N9)
      exact LfJ.mk F9 ⟨rfl, rfl, rfl, rfl, rfl, trivial⟩ (cb_drop N9 (sub_tail (sub_tail sub_refl))) (.inr ⟨fun e => by omega, rfl, rfl⟩)
    · (with_reducible rename Fr _ _ _ _ => F9)
      (with_reducible rename News _ _ _ _ => N9)
      exact LfJ.mk F9 ⟨rfl, rfl, rfl, rfl, rfl, trivial⟩ (cb_drop N9 (sub_tail (sub_tail sub_refl))) (.inr ⟨fun e => (by have := (show last = false by with_reducible assumption); rw [this] at e; exact nomatch e.1), rfl, rfl⟩)
  · rintro f s' ⟨rfl, W, tW, tx, m', h8, tk8, tn, u9, hM, rfl, hm, F8, N8⟩
    have hW := lf_mid_len hql hM
    rw [show m' = fmu _ m' from fmu_eq hm] at F8
    dsimp only
    k_steps
    · have l := (show _ ∧ AllLt _ (tl ++ _) from by with_reducible assumption)
      obtain ⟨d, hR, hd⟩ := lf_end_t hn0 hn1 hq (by with_reducible assumption) hd1 hM
      exact ret _ _ _ _ _ _ tl hR hd (lf_ord1 ho1 l.2) (lf_ord2 ho2 l.2) (lf_ord3 l.2) _ _ (by k_asm) (cb_drop (by k_asm) (sub_cons (.head _) (sub_tail (sub_tail sub_refl))))
    · have l := (show _ ∧ AllLt _ (tl ++ _) from by with_reducible assumption)
      exact ret _ _ _ _ _ _ tl (lf_end_n hn0 hn1 hq (by with_reducible assumption) hM) hd2 (lf_ord1 ho1 l.2) (lf_ord2 ho2 l.2) (lf_ord3 l.2) _ _ (by k_asm) (cb_drop (by k_asm) (sub_cons (.head _) (sub_tail (sub_tail sub_refl))))
end Mine
end
section
namespace Mine
/-- a tree that touches no object's dict -/
inductive Keep {α : Type} : Sem α → Prop
  | pure {a} : Keep (.pure a)
  | raise {e} : Keep (.raise e)
  | unsupported {x} : Keep (.unsupported x)
  | finish {x} : Keep (.finish x)
  | rule {t k} : (∀ x, Keep (k x)) → Keep (.rule t k)
  | at_ {p k} : (∀ x, Keep (k x)) → Keep (.at p k)
  | load {a p k} : (∀ o, Keep (k o)) → Keep (.load a p k)
  | update {a p f k} : (∀ o : Obj, o.isFreed = false → (f o).isFreed = false ∧ (f o).dict = o.dict) → (∀ x, Keep (k x)) → Keep (.update a p f k)
  | alloc {o k} : (∀ a, Keep (k a)) → Keep (.alloc o k)
  | loadIfAlive {a k} : (∀ o, Keep (k o)) → Keep (.loadIfAlive a k)
  | point {l k} : (∀ x, Keep (k x)) → Keep (.point l k)
  | register {a k} : Keep (.register a k)
  | fresh {k} : (∀ x, Keep (k x)) → Keep (.fresh k)
  | ask {k} : (∀ x, Keep (k x)) → Keep (.ask k)
  | stack {k} : (∀ x, Keep (k x)) → Keep (.stack k)
noncomputable def HasD (e : Addr) (d : Option Addr) (h : Heap) : Prop := ∃ o, h.get? e = some o ∧ o.dict = d
theorem HasD.upd {e a : Addr} {d : Option Addr} {h : Heap} {f : Obj → Obj} (H : HasD e d h) (hf : ∀ o : Obj, o.isFreed = false → (f o).isFreed = false ∧ (f o).dict = o.dict) : HasD e d (h.update a f) := by
  obtain ⟨o, ho, hd⟩ := H
  by_cases q : a = e
  · subst q
    have hn := (Heap.get?_some_iff.mp ho).2
    exact ⟨f o, Heap.get?_update_self f ho (hf o hn).1, (hf o hn).2.trans hd⟩
  · exact ⟨o, by rw [Heap.get?_update_other _ _ q]; exact ho, hd⟩
theorem Keep.wp {α : Type} {M : Model} {Γ : PySem.Ctx} {e : Addr} {d : Option Addr} {t : Sem α} (K : Keep t) : ∀ {Q : α → Pos → Shared → Prop} {E : Value → Pos → Shared → Prop} {p : Pos} {s : Shared}, HasD e d s.heap → Sem.wp M Γ t Q E p s →
    Sem.wp M Γ t (fun a p s => Q a p s ∧ HasD e d s.heap) (fun v p s => E v p s ∧ HasD e d s.heap) p s := by
  induction K with
  | pure => intro Q E p s H h; exact ⟨h, H⟩
  | raise => intro Q E p s H h; exact ⟨h, H⟩
  | unsupported => intro Q E p s H h; exact h
  | finish => intro Q E p s H h; exact h
  | rule _ ih => intro Q E p s H h; exact ih _ H h
  | at_ _ ih => intro Q E p s H h; exact ih _ H h
  | load _ ih => intro Q E p s H h; obtain ⟨o, h1, h2⟩ := h; exact ⟨o, h1, ih _ H h2⟩
  | update hf _ ih => intro Q E p s H h; exact ⟨h.1, ih _ (H.upd hf) h.2⟩
  | alloc _ ih => intro Q E p s H h; obtain ⟨o, h1, h2⟩ := H; exact ih _ (show HasD _ _ (Heap.push _ _) from ⟨o, Heap.get?_push_of_some _ h1, h2⟩) h
  | loadIfAlive _ ih => intro Q E p s H h; exact ih _ H h
  | point _ ih => intro Q E p s H h; exact ih _ H h
  | register => intro Q E p s H h; exact h
  | fresh _ ih => intro Q E p s H h; exact ih _ (show HasD _ _ _ from H) h
  | ask _ ih => intro Q E p s H h; exact ih _ H h
  | stack _ ih => intro Q E p s H h; exact ih _ H h
theorem Keep.any {α : Type} {M : Model} {A : Around} {e : Addr} {d : Option Addr} {t : Sem α} (K : Keep t) {Q : α → Shared → Prop} {E : Value → Shared → Prop} {s : Shared} (H : HasD e d s.heap) (h : wpAny M A t Q E s) :
    wpAny M A t (fun a s => Q a s ∧ HasD e d s.heap) E s := fun Γ p hΓ => Sem.wp_mono M Γ t (fun _ _ _ z => z) (fun _ _ _ z => And.left z) p s (K.wp H (h Γ p hΓ))
theorem Keep.bind {α β : Type} {t : Sem α} {f : α → Sem β} (K : Keep t) (hf : ∀ a, Keep (f a)) : Keep (t >>= f) := by
  show Keep (t.bind f)
  induction K with
  | pure => exact hf _
  | raise => exact .raise
  | unsupported => exact .unsupported
  | finish => exact .finish
  | rule _ ih => exact .rule ih
  | at_ _ ih => exact .at_ ih
  | load _ ih => exact .load ih
  | update h _ ih => exact .update h ih
  | alloc _ ih => exact .alloc ih
  | loadIfAlive _ ih => exact .loadIfAlive ih
  | point _ ih => exact .point ih
  | register => exact .register
  | fresh _ ih => exact .fresh ih
  | ask _ ih => exact .ask ih
  | stack _ ih => exact .stack ih
theorem Keep.map {α β : Type} {t : Sem α} {f : α → β} (K : Keep t) : Keep (f <$> t) := K.bind fun _ => .pure
theorem keep_pure {α : Type} {a : α} : Keep (Pure.pure a : Sem α) := .pure
theorem keep_load {a : Addr} : Keep (load a) := .load fun _ => .pure
theorem keep_loadPart {a : Addr} {p : Option Value} : Keep (loadPart a p) := .load fun _ => .pure
theorem keep_stack : Keep stack := .stack fun _ => .pure
theorem keep_alloc {o : Obj} : Keep (alloc o) := .alloc fun _ => .pure
theorem keep_register {a : Addr} : Keep (register a) := .register
theorem keep_unsupported {α : Type} {x : String} : Keep (unsupported x : Sem α) := .unsupported
theorem keep_update {a : Addr} {f : Obj → Obj} (h : ∀ o : Obj, o.isFreed = false → (f o).isFreed = false ∧ (f o).dict = o.dict) : Keep (update a f) := .update h fun _ => .pure
theorem keep_map {a : Addr} {f : Array Value → Array Value} : Keep (update a (Obj.mapFields f)) := keep_update fun o ho => by
  obtain ⟨c, d, dt, sl⟩ := o
  cases dt <;> exact ⟨ho, rfl⟩
theorem keep_slots {a : Addr} {f : Obj → Array (Option Value)} : Keep (update a fun o => { o with slots := f o }) := keep_update fun o ho => by
  obtain ⟨c, d, dt, sl⟩ := o
  cases dt <;> exact ⟨ho, rfl⟩
theorem kw_E0_0 : True := by
  k_with_none
  w_top off
  k_with "KEEP" => repeat' (first | with_reducible exact keep_pure | with_reducible exact keep_load | with_reducible exact keep_loadPart | with_reducible exact keep_stack | with_reducible exact keep_alloc | with_reducible exact keep_register | with_reducible exact keep_unsupported | with_reducible exact keep_map | with_reducible exact keep_slots | with_reducible assumption | (with_reducible refine Keep.bind ?_ ?_) | (with_reducible refine Keep.map ?_) | intro _ | split)
  trivial
theorem keep_field {v : Value} {i : Nat} : Keep (field v i) := by
  unfold field fieldsOf
  walk_at "KEEP"
theorem keep_setField {v x : Value} {i : Nat} : Keep (setField v i x) := by
  unfold setField updateField
  walk_at "KEEP"
theorem keep_nsLook {x : PySem.Str} {o : Obj} : Keep (nsLook x o) := by
  unfold nsLook
  walk_at "KEEP"
theorem keep_nsGet {a : Addr} {x : PySem.Str} : Keep (nsGet a x) := by
  unfold nsGet
  walk_at "KEEP"
  exact keep_nsLook
theorem keep_caller : Keep underTheClaimsCaller := by
  unfold underTheClaimsCaller
  walk_at "KEEP"
theorem keep_ready : ∀ l : List Env, Keep (readyFrames l)
  | [] => .pure
  | env :: outer => by
    have ih := keep_ready outer
    unfold readyFrames behindIsImport keptBack
    walk_at "KEEP"
    · exact keep_field
    · exact keep_caller
theorem keep_frameOf {env : Env} : Keep (PySem.frameOf env) := by
  unfold PySem.frameOf frameEnvs frameObject
  walk_at "KEEP"
  exact keep_ready _
theorem keep_asIs {c : Value} {d : Data} {x : Option Addr} : Keep (newObjAsIs c d x) := by
  unfold newObjAsIs classHasDel
  walk_at "KEEP"
theorem keep_newObj {c : Value} {d : Data} {x : Option Addr} : Keep (newObj c d x) := by
  unfold newObj
  dsimp only
  walk_at "KEEP"
  all_goals first | exact keep_asIs | exact keep_unsupported | (dsimp only; first | exact keep_asIs | exact .bind keep_unsupported fun _ => keep_asIs)
theorem keep_place {f : Addr} {b : Bool} : Keep (entryPlaceOf f b) := by
  unfold entryPlaceOf
  walk_at "KEEP"
theorem keep_note {e : Value} {env : Env} : Keep (noteFrame e env) := by
  unfold noteFrame EntryCells.newEntry newFields
  dsimp only
  walk_at "KEEP"
  all_goals first | exact keep_field | exact keep_setField | exact keep_frameOf | exact keep_place | exact keep_newObj | skip
theorem keep_flight {e : Value} {o : Option Addr} : Keep (setFlight e o) := by
  unfold setFlight
  walk_at "KEEP"
  all_goals first | exact keep_field | exact keep_setField
theorem keep_leaving {e : Value} {env : Env} : Keep (leaving env e) := by
  unfold leaving
  exact .bind keep_note fun _ => keep_flight
end Mine
end
section
namespace Mine
open Builtin
@[reducible] noncomputable def tupX (l : List Value) : Obj := { cls := .type "tuple", data := .seq l.toArray }
@[reducible] noncomputable def excN (C t : Addr) : Obj := { cls := .ref C, data := .fields #[.ref t, .none, .none, .none, .bool false, .none] }
section
variable {prog : Program} {w : World} {A : Around} {R : Result → Shared → Prop} {h : Heap} {g : Array GenState} {d : Drawn} {t : Nat} {os : OsState}
variable {nm q : PySem.Str} {C N : Addr} {bs bm : List Value} {hdct : Bool} {sn : List PySem.Str} {sub : List Value} {ab : Bool} {col : Option Bool} {dd : Option Addr} {k0 k1 k2 k3 k5 : Option Value} {B newId initId : String}
theorem mk_exc {rest : List Value} {fI : Addr} (FB : ExcBaseFacts B newId initId bm) (hC : h.get? C = some (excClassObj nm q C N bs bm hdct sn sub ab col dd k0 k1 k2 k3 k5 newId))
    (call : Looks (model prog w) h (specialOf (.ref C) "__call__") (some (.builtin "type.__call__"))) (typ : Looks (model prog w) h (isInstance (.ref C) (.type "type")) true)
    (hi : Looks (model prog w) h (typeLookup (.ref C) "__init__") (some (.ref fI))) (hb : ∀ self, Looks (model prog w) h (bindSpecial (.ref fI) self) (.ref fI, [self])) (self : Looks (model prog w) h (isSubtype (.ref C) (.ref C)) true) (hr : rest.length ≤ sizeLine)
    (hq : codeAny (model prog w) (A.under (.builtin "type.__call__" ⟨.ref C :: rest, []⟩)) (.call (.ref fI) ⟨.ref (h.objs.size + 1) :: rest, []⟩) (InitBack (h.objs.size + 1) R) ⟨(h.push (tupX rest)).push (excN C h.objs.size), g, d, t, os⟩) :
    codeAny (model prog w) A (.call (.ref C) ⟨rest, []⟩) R ⟨h, g, d, t, os⟩ := by
  refine codeAny_of_tree ?_
  show wpAny _ _ (callAny (.ref C) _) _ _ _
  refine nd_load hC ?_
  show wpAny _ _ (callAny.viaDunder (.ref C) _) _ _ _
  unfold callAny.viaDunder
  refine wpAny_bind (call.at ?_)
  dsimp only
  rw [tc_bind]
  refine wpAny_bind (wpAny_pure (wpAny_bind (wpAny_pure ?_)))
  refine wpAny_pure (a := Fin.again (.call (.builtin "type.__call__") ⟨.ref C :: rest, []⟩)) (And.intro rfl ?_)
  refine codeAny_call_builtin_at (Code.quiet_builtin _ (by decide +kernel)) entry_typeCall (check_slot PySem.tc_kind PySem.tc_split typ (tc_args _ _ _) ?_)
  unfold Builtin.«type.__call__»
  repeat (first | with_reducible refine wpAny_loadPart_at hC ?_ | with_reducible refine wpAny_madeBy_exc hC ?_ | wp_step)
  refine codeAny_call_builtin_code (Code.quiet_builtin _ FB.quiet) (wpAny_check_new_sub FB hC ?_)
  refine codeAny_exc_new_sub FB hC ?_ hr
  show wpAny _ _ _ _ _ _
  have k : ∀ b o, h.get? b = some o → ((h.push (tupX rest)).push (excN C h.objs.size)).get? b = some o := fun b o e => Heap.get?_push_of_some _ (Heap.get?_push_of_some _ e)
  have hx : ((h.push (tupX rest)).push (excN C h.objs.size)).get? (h.objs.size + 1) = some (excN C h.objs.size) := by heap_get
  have t1 : Looks (model prog w) ((h.push (tupX rest)).push (excN C h.objs.size)) (typeOf (.ref (h.objs.size + 1))) (.ref C) := (Looks.ld hx).andThen .now
  have s1 := self.keeps k
  have i1 := hi.keeps k
  have b1 := (hb (.ref (h.objs.size + 1))).keeps k
  show wpAny _ _ _ _ _ ⟨(h.push (tupX rest)).push (excN C h.objs.size), g, d, t, os⟩
  unfold isInstance callSpecial? specialOf
  repeat (first | with_reducible refine wpAny_call ?_ | lk)
  refine codeAny_mono hq fun r s' z => ?_
  rcases r with e | (v | _ | _ | _) <;> first | exact z | exact z.elim | skip
  obtain ⟨rfl, z⟩ := z
  exact wpAny_pure (wpAny_pure z)
end
end Mine
end
section
namespace Mine
open Builtin
theorem slot_wd_get : Slot "wrapper_descriptor" "__get__" "wrapper_descriptor.__get__" := .of (owner := "wrapper_descriptor") (n := "__get__") (by rw [typeLookup_type, builtinLookup_eq_fast]; kernel_rfl) (by decide +kernel) (by decide +kernel) (by decide +kernel)
  (by first | exact .inl (by decide +kernel) | exact .inr (by decide +kernel)) (by rw [isSubtype_type]; kernel_rfl)
theorem entry_wd_get : entryFor table "wrapper_descriptor.__get__" = some Builtin.«wrapper_descriptor.__get__» := entryFor_of_tree (by kernel_rfl)
theorem args_wd_get (a b c : Value) : argsOk "wrapper_descriptor.__get__" ⟨[a, b, c], []⟩ := by unfold argsOk; kernel_rfl
theorem ty_exc_init : typeOf (.builtin "Exception.__init__") = pure (.type "wrapper_descriptor") := by kernel_rfl
@[reducible] noncomputable def mwO (x : Addr) : Obj := { cls := .type "method-wrapper", data := .fields #[.builtin "Exception.__init__", .ref x] }
section
variable {prog : Program} {w : World} {M : Model} {A : Around} {E : Value → Shared → Prop} {h : Heap} {g : Array GenState} {d : Drawn} {t : Nat} {os : OsState}
theorem wd_plain : plainId "wrapper_descriptor.__get__" = true := by decide +kernel
theorem wd_kind : builtinKind "wrapper_descriptor.__get__" = some .slot := by decide +kernel
theorem wd_split : splitId "wrapper_descriptor.__get__" = some ("wrapper_descriptor", "__get__") := by decide +kernel
theorem wd_inst : isInstance (.builtin "Exception.__init__") (.type "wrapper_descriptor") = pure true := by
  unfold isInstance
  rw [ty_exc_init]
  show isSubtype (.type "wrapper_descriptor") (.type "wrapper_descriptor") = pure true
  rw [isSubtype_type]; kernel_rfl
theorem exc_owner : ".".intercalate ("Exception.__init__".cutAt '.').dropLast = "Exception" := by decide +kernel
theorem wd_get {x C : Addr} {ox : Obj} {Q : Fin → Shared → Prop} (hx : h.get? x = some ox) (hxc : ox.cls = .ref C) (sub : Looks (model prog w) h (isSubtype (.ref C) (.type "Exception")) true)
    (hq : Q (.done (.ret (.ref h.objs.size))) ⟨h.push (mwO x), g, d, t, os⟩) :
    wpAny (model prog w) A (Builtin.«wrapper_descriptor.__get__» ⟨[.builtin "Exception.__init__", .ref x, .ref C], []⟩) Q E ⟨h, g, d, t, os⟩ := by
  unfold Builtin.«wrapper_descriptor.__get__»
  repeat (first | (with_reducible refine wpAny_loadPart_at hx ?_; rw [hxc]) | (rw [exc_owner]; with_reducible refine Looks.at sub ?_) | wp_step)
  exact hq
theorem sup_ga_b {so D x C : Addr} {l₀ l : List Value} {K : Frag} {name : PySem.Str} {tk : Tok} {Q : Fin → Shared → Prop}
    (hso : h.get? so = some { cls := .type "super", dict := none, data := .fields #[.ref D, .ref x, .ref C], slots := #[] }) (hno : Looks (model prog w) h (opaqueClassAbove (.ref C)) none)
    (hC : Looks (model prog w) h (mroOf (.ref C)) l₀) (hl : (l₀.dropWhile (· != .ref D)).drop 1 = l) (X : K.In h)
    (hf : alongIn K name l = some (some (.builtin "Exception.__init__"))) {ox : Obj} (hx : h.get? x = some ox) (hxc : ox.cls = .ref C) (sub : Looks (model prog w) h (isSubtype (.ref C) (.type "Exception")) true) (hxC : x ≠ C) (hn : (name == ("__class__" : PySem.Str)) = false)
    (hq : Q (.done (.ret (.ref h.objs.size))) ⟨h.push (mwO x), g, d, t, os⟩) :
    wpAny (model prog w) A (Builtin.«super.__getattribute__» ⟨[.ref so, .str name tk], []⟩) Q E ⟨h, g, d, t, os⟩ := by
  have hlk := slot_wd_get.lookup
  have hne : (Value.ref x == Value.ref C) = false := by simp [hxC]
  have hdt : ({ cls := .type "super", dict := none, data := .fields #[.ref D, .ref x, .ref C], slots := #[] } : Obj).data = .fields #[.ref D, .ref x, .ref C] := rfl
  have f0 : (#[.ref D, .ref x, .ref C] : Array Value)[0]? = some (.ref D) := rfl
  have f1 : (#[.ref D, .ref x, .ref C] : Array Value)[1]? = some (.ref x) := rfl
  have f2 : (#[.ref D, .ref x, .ref C] : Array Value)[2]? = some (.ref C) := rfl
  unfold Builtin.«super.__getattribute__»
  repeat (first
    | (with_reducible refine wpAny_field hso hdt f0 ?_) | (with_reducible refine wpAny_field hso hdt f1 ?_) | (with_reducible refine wpAny_field hso hdt f2 ?_)
    | (with_reducible refine ks_wpAny_notOpaque hno ?_)
    | (with_reducible refine Looks.at hC ?_; rw [hl])
    | (refine ks_forIn_along X (fun _ _ => rfl) rfl ?_ hf)
    | (with_reducible refine wpAny_of_eq ty_exc_init ?_)
    | (with_reducible refine codeAny_call_builtin wd_plain entry_wd_get (check_slot wd_kind wd_split (Looks.of_pure wd_inst) (args_wd_get _ _ _) (wd_get hx hxc sub ?_)))
    | (with_reducible refine ⟨_, rfl, ?_⟩)
    | (simp only [hn, hne, Bool.or_false, Bool.false_eq_true, if_false])
    | wp_step
    | dsimp only)
  exact hq
theorem sup_gm_b {so D x C : Addr} {l₀ l : List Value} {K : Frag} {name : PySem.Str} {pl : Sem Bool} {Q : Value × List Value → Shared → Prop}
    (hso : h.get? so = some { cls := .type "super", dict := none, data := .fields #[.ref D, .ref x, .ref C], slots := #[] }) (hno : Looks (model prog w) h (opaqueClassAbove (.ref C)) none)
    (hC : Looks (model prog w) h (mroOf (.ref C)) l₀) (hl : (l₀.dropWhile (· != .ref D)).drop 1 = l) (X : K.In h)
    (hf : alongIn K name l = some (some (.builtin "Exception.__init__"))) {ox : Obj} (hx : h.get? x = some ox) (hxc : ox.cls = .ref C) (sub : Looks (model prog w) h (isSubtype (.ref C) (.type "Exception")) true) (hxC : x ≠ C) (hn : (name == ("__class__" : PySem.Str)) = false)
    (hq : Q (.ref h.objs.size, []) ⟨h.push (mwO x), g, d, t + 1, os⟩) :
    wpAny (model prog w) A (getMethod (.ref so) name pl) Q E ⟨h, g, d, t, os⟩ := by
  have hlk := F.ks_slot_super_ga.lookup
  have hcan := F.ks_canon_super_ga
  have hT : ∀ t', (⟨h, g, d, t', os⟩ : Shared).TypeIs (.ref so) "super" := fun _ => ⟨_, hso, rfl⟩
  unfold getMethod
  refine wpAny_bind (wpAny_specialOf (hT _) hlk ?_)
  show wpAny _ _ (if (Manifest.canonical "super.__getattribute__" != "object.__getattribute__") = true then _ else _) _ _ _
  rw [if_pos hcan]
  unfold getAttr getAttrBy
  refine wpAny_bind (wpAny_bind (wpAny_mkText (wpAny_holding (wpAny_bind (wpAny_typeOf (hT _) (wpAny_bind (wpAny_of_eq hlk ?_)))))))
  show wpAny _ _ (getAttrByItsOwn (.ref so) (.str name t) (.type "super") (.builtin "super.__getattribute__") true false) _ _ _
  unfold getAttrByItsOwn hookBefore callGetattribute boundAndCalled
  refine wpAny_bind (wpAny_of_eq (show (if onTheHeap (.type "super") then typeLookup (.type "super") "__getattr__" else pure none) = pure none from rfl) ?_)
  refine wpAny_bind (wpAny_attempt (wpAny_holding ?_))
  show wpAny _ _ (bindSpecial (.builtin "super.__getattribute__") (.ref so) >>= _) _ _ _
  refine wpAny_bind (wpAny_of_eq (F.ks_slot_super_ga.bind _) ?_)
  refine wpAny_mono (Q := fun v s' => v = .ref h.objs.size ∧ s' = ⟨h.push (mwO x), g, d, t + 1, os⟩) (E := fun _ _ => False)
    (wpAny_call_entry F.ks_slot_super_ga (hT _) F.ks_entry_super_ga (sup_ga_b hso hno hC hl X hf hx hxc sub hxC hn ⟨_, rfl, rfl, rfl⟩) (F.ks_gaArgs_super _ _)) (fun v s' hv => ?_) fun _ _ z => z.elim
  obtain ⟨rfl, rfl⟩ := hv
  exact wpAny_pure (wpAny_pure hq)
theorem bound_ok {nm q : PySem.Str} {C N x : Addr} {bs bm : List Value} {hdct : Bool} {sn : List PySem.Str} {sub : List Value} {ab : Bool} {col : Option Bool} {dd : Option Addr} {k0 k1 k2 k3 k5 : Option Value} {newId : String} {ox : Obj} {v : Value} {Q : Unit → Shared → Prop}
    (hC : h.get? C = some (excClassObj nm q C N bs bm hdct sn sub ab col dd k0 k1 k2 k3 k5 newId)) (hx : h.get? x = some ox) (hcls : ox.cls = .ref C)
    (hq : Q () ⟨h, g, d, t, os⟩) : wpAny (model prog w) A (checkBoundCall "Exception.__init__" ⟨[.ref x, v], []⟩) Q E ⟨h, g, d, t, os⟩ := by
  have FB := PySem.F.excBase_Exception
  have hshort := FB.noStar
  unfold checkBoundCall
  simp only [FB.initKind, FB.initRow]
  rw [if_pos (by decide)]
  repeat (first | (with_reducible refine wpAny_loadPart_at hx ?_; rw [hcls]) | with_reducible refine wpAny_loadPart_at hC ?_ | wp_step)
  exact hq
theorem ei_plain : plainId "Exception.__init__" = true := by decide +kernel
theorem ei_entry : entryFor table "Exception.__init__" = some Builtin.«BaseException.__init__» := PySem.F.excBase_Exception.initEntry
theorem ei_run {x tt : Addr} {C v : Value} {Q : Fin → Shared → Prop} (hx : h.get? x = some { cls := C, data := .fields #[.ref tt, .none, .none, .none, .bool false, .none] })
    (hq : ∀ h', h'.get? x = some { cls := C, data := .fields #[.ref h.objs.size, .none, .none, .none, .bool false, .none] } → h'.get? h.objs.size = some (tupX [v]) → (∀ b o, b ≠ x → h.get? b = some o → h'.get? b = some o) → h'.objs.size = h.objs.size + 1 → Q (.done (.ret .none)) ⟨h', g, d, t, os⟩) :
    wpAny (model prog w) A (Builtin.«BaseException.__init__» ⟨[.ref x, v], []⟩) Q E ⟨h, g, d, t, os⟩ := by
  unfold Builtin.«BaseException.__init__» BaseException.bexcPut
  repeat (first | wp_step)
  have hx' := Heap.get?_push_of_some (tupX [v]) hx
  refine hq _ ?_ ?_ (fun b o hb ho => ?_) ?_
  · rw [Heap.get?_update_self _ hx' rfl]; rfl
  · rw [Heap.get?_update_other _ _ (Nat.ne_of_lt (Heap.lt_size hx))]; exact Heap.get?_push_size h rfl
  · rw [Heap.get?_update_other _ _ (Ne.symm hb)]; exact Heap.get?_push_of_some _ ho
  · rw [Heap.size_after_update, Heap.size_push]
theorem mw_call {nm q : PySem.Str} {C N x b tt : Addr} {bs bm : List Value} {hdct : Bool} {sn : List PySem.Str} {sub : List Value} {ab : Bool} {col : Option Bool} {dd : Option Addr} {k0 k1 k2 k3 k5 : Option Value} {newId : String} {v : Value} {Q : Value → Shared → Prop}
    (hC : h.get? C = some (excClassObj nm q C N bs bm hdct sn sub ab col dd k0 k1 k2 k3 k5 newId)) (hx : h.get? x = some (excN C tt)) (hb : h.get? b = some (mwO x))
    (hq : ∀ h', h'.get? x = some (excN C h.objs.size) → h'.get? h.objs.size = some (tupX [v]) → (∀ b o, b ≠ x → h.get? b = some o → h'.get? b = some o) → h'.objs.size = h.objs.size + 1 → Q .none ⟨h', g, d, t, os⟩) :
    wpAny (model prog w) A (call (.ref b) [v]) Q E ⟨h, g, d, t, os⟩ := by
  refine wpAny_call (codeAny_of_tree ?_)
  show wpAny _ _ (callAny (.ref b) _) _ _ _
  unfold callAny
  refine wpAny_bind (wpAny_load hb ?_)
  show wpAny _ _ (checkBoundCall "Exception.__init__" ⟨[.ref x, v], []⟩ >>= _) _ _ _
  refine wpAny_bind (bound_ok hC hx rfl ?_)
  refine wpAny_pure (a := PySem.Fin.again (.builtin "Exception.__init__" ⟨[.ref x, v], []⟩)) (And.intro (plainId_quiet ei_plain _) (codeAny_builtin ei_entry ?_))
  exact ei_run hx hq
end
end Mine
end
section
namespace Mine
open Builtin Builtin.ObjectAttr
section
variable {prog : Program} {w : World} {A : Around} {E : Value → Shared → Prop} {h : Heap} {g : Array GenState} {d : Drawn} {t : Nat} {os : OsState}
variable {nm q : PySem.Str} {C N x : Addr} {bs bm : List Value} {sn : List PySem.Str} {sub : List Value} {ab : Bool} {col : Option Bool} {dd : Option Addr} {k0 k1 k2 k3 k5 : Option Value} {B newId sa owner : String}
  {mN mA : PySem.Str → Option Value} {name : PySem.Str} {v : Value}
/-- the first attribute of an own exception makes its dict -/
theorem store_first {tk : Tok} {Q : PySem.Fin → Shared → Prop} {o : Obj} (SF : StoreFacts B bm sa owner)
    (hC : h.get? C = some (excClassObj nm q C N bs bm true sn sub ab col dd k0 k1 k2 k3 k5 newId)) (hn : h.Ns N mN) (hna : mN name = none)
    (hB : typeLookup (.type B) name = pure none) (hx : h.get? x = some o) (hc : o.cls = .ref C) (hnc : ∀ c, o.data ≠ .cls c) (hdn : o.dict = none)
    (hq : ∀ h' tk', h'.get? x = some { o with dict := some h.objs.size } → h'.Ns1 h.objs.size (fun y => if y = name then some v else none) →
      (∀ b o, b ≠ x → h.get? b = some o → h'.get? b = some o) → Q (.done (.ret .none)) ⟨h', g, d, tk', os⟩) :
    wpAny (model prog w) A (Builtin.«object.__setattr__» ⟨[.ref x, .str name tk, v], []⟩) Q E ⟨h, g, d, t, os⟩ := by
  have hpass := SF.passes (.ref x)
  unfold Builtin.«object.__setattr__»
  repeat (first | rw [refuse_eq] | (rw [refuseLoop_ref, hpass]) | (with_reducible refine wpAny_loadPart_at hx ?_; rw [hc]) | with_reducible refine wpAny_mroOf_exc hC ?_ | (with_reducible refine wpAny_typeLookup_exc hC hn SF.mro hB ?_; rw [hna]) | wp_step)
  rw [hdn, if_neg (by simp [typeHasDict])]
  split
  · rename_i hcd
    cases hcd
  split
  · rename_i c hcd
    exact absurd hcd (hnc c)
  have hx1 : (h.push emptyDict).get? x = some o := Heap.get?_push_of_some _ hx
  have hxs : x ≠ h.objs.size := Nat.ne_of_lt (Heap.lt_size hx)
  refine wpAny_bind (wpAny_alloc' (wpAny_bind (wpAny_update' hx1 (wpAny_pure ?_))))
  have hgd : ((h.push emptyDict).update x fun o => { cls := o.cls, dict := some h.objs.size, data := o.data, slots := o.slots }).get? h.objs.size = some emptyDict :=
    (Heap.get?_update_ne _ _ _ _ hxs.symm).trans (Heap.get?_push_at rfl rfl)
  have hnd : ((h.push emptyDict).update x fun o => { cls := o.cls, dict := some h.objs.size, data := o.data, slots := o.slots }).Ns h.objs.size (fun _ => none) :=
    ⟨_, #[], _, hgd, rfl, fun e he => absurd he (by simp), fun _ => rfl⟩
  show wpAny _ _ (storeInDict h.objs.size (.str name tk) name v) _ _ _
  unfold storeInDict newKeyGuard
  refine wpAny_bind (wpAny_pure (wpAny_bind (wpAny_nsSet1 (Heap.Ns1.of_empty hnd) fun h' hn' hs => ?_)))
  obtain ⟨oD, esD, epD, hoD, hdD, hcD⟩ := hn'.count (Within.cons name v Within.nil)
  refine wpAny_bind (wpAny_lookBehind hoD (by rw [hdD]; exact pastItsLine_dict (Nat.le_trans hcD (by rw [List.length_cons, List.length_nil, sizeLine_eq]; omega))) ?_)
  wp_walk
  refine hq h' _ ((hs.2 x hxs).trans (Heap.get?_update_self _ hx1 ?_)) hn' fun b ob hb hob => (hs.2 b (Nat.ne_of_lt (Heap.lt_size hob))).trans ((Heap.get?_update_ne _ _ _ _ hb).trans (Heap.get?_push_of_some _ hob))
  have hfr := (Heap.get?_some_iff.mp hx).2
  obtain ⟨oc, od, odt, osl⟩ := o
  cases odt <;> first | rfl | exact hfr
theorem store_first_attr {Q : Unit → Shared → Prop} {o : Obj} (SF : StoreFacts B bm sa owner)
    (hC : h.get? C = some (excClassObj nm q C N bs bm true sn sub ab col dd k0 k1 k2 k3 k5 newId)) (hn : h.Ns N mN) (hns : mN "__setattr__" = none) (hna : mN name = none)
    (hB : typeLookup (.type B) name = pure none) (hx : h.get? x = some o) (hc : o.cls = .ref C) (hnc : ∀ c, o.data ≠ .cls c) (hdn : o.dict = none)
    (hq : ∀ h' tk', h'.get? x = some { o with dict := some h.objs.size } → h'.Ns1 h.objs.size (fun y => if y = name then some v else none) →
      (∀ b o, b ≠ x → h.get? b = some o → h'.get? b = some o) → Q () ⟨h', g, d, tk', os⟩) :
    wpAny (model prog w) A (setAttr (.ref x) name v) Q E ⟨h, g, d, t, os⟩ := by
  have f3 := SF.slot.bind (.ref x)
  unfold setAttr callSpecial? specialOf
  repeat (any_goals (first | assumption | (with_reducible refine wpAny_loadPart_at hx ?_; rw [hc]) | (with_reducible refine wpAny_typeLookup_exc hC hn SF.mro SF.slot.lookup ?_; rw [hns]) | wp_step))
  refine codeAny_call_builtin SF.slot.plain SF.entry (wpAny_check_sa SF hC hx hc (store_first SF hC hn hna hB hx hc hnc hdn (fun h' tk' I' hk hsame => ?_)))
  repeat (any_goals (first | assumption | wp_step))
  exact hq h' tk' I' hk hsame
end
end Mine
end
section
namespace Mine
section
variable {prog : Program} {w : World} {A : Around} {E : Value → Shared → Prop} {s : Shared} {h₀ : Heap} {L : Addr} {m : PySem.Str → Option Value} {news : List (Addr × Obj)} {K : Frag} {x C D so : Addr} {ox : Obj}
theorem sup_K {name : PySem.Str} {pl : Sem Bool} {Q : Value × List Value → Shared → Prop} (F : Fr h₀ L s.heap m) (X₀ : K.In h₀) (N : News h₀ L s.heap news) (hso : (so, ks_superObj D x C) ∈ news) (I : InstAt s.heap x ox C none) (ho : nsIn K cStatics "thirdparty.any" = some none)
    (hm : ks_superIn K C D name = some (some (.builtin "Exception.__init__"))) (hsub : mroIn K C (.type "Exception") = some true) (hn : (name == ("__class__" : PySem.Str)) = false)
    (h : ∀ q h', Fr h₀ L h' m → News h₀ L h' ((q, mwO x) :: news) → (∀ p ∈ news, p.1 < q) → Q (.ref q, []) { s with heap := h', toks := s.toks + 1 }) : wpAny (model prog w) A (getMethod (.ref so) name pl) Q E s := by
  have X : K.In s.heap := X₀.keeps F.keep
  obtain ⟨hh, g, d, t, os⟩ := s
  cases hc : clsIn K C with
  | none => unfold ks_superIn at hm; rw [hc] at hm; cases hm
  | some cd =>
    unfold ks_superIn at hm
    rw [hc] at hm
    refine sup_gm_b (N _ hso).1 (looks_opaque X ho) (l₀ := cd.mro) ?_ rfl X hm I.at_ I.cls (looks_mroIn X hsub) (ks_ne X I hc) hn ?_
    · exact fun A Q E s k q => wpAny_bind ((looks_clsIn X hc) A _ E s k (wpAny_pure q))
    · obtain ⟨F', N', l'⟩ := ks_newsPush (s := ⟨hh, g, d, t, os⟩) (o := mwO x) F N rfl (Heap.get?_push_at rfl rfl) (fun b o e => Heap.get?_push_of_some _ e)
      exact h _ _ F' N' l'
/-- Fr and News when one object is changed and others are new -/
theorem fr_chg {h h' : Heap} {o : Obj} (F : Fr h₀ L h m) (N : News h₀ L h ((x, o) :: news)) (k : ∀ b o, b ≠ x → h.get? b = some o → h'.get? b = some o) : Fr h₀ L h' m := by
  obtain ⟨oL, es, ep, hL, r⟩ := F.ns
  have P := N _ (.head _)
  refine ⟨⟨oL, es, ep, k _ _ (Ne.symm P.2.1) hL, r⟩, fun b o e => k _ _ (fun q => ?_) (F.keep _ _ e), F.above⟩
  have := P.2.2
  rw [← q, e] at this; cases this
theorem news_chg {h h' : Heap} {o o' : Obj} (N : News h₀ L h ((x, o) :: news)) (k : ∀ b o, b ≠ x → h.get? b = some o → h'.get? b = some o) (hx : h'.get? x = some o') (hn : ∀ p ∈ news, p.1 ≠ x) : News h₀ L h' ((x, o') :: news) := fun p hp => by
  rcases List.mem_cons.mp hp with rfl | hp
  · exact ⟨hx, (N _ (.head _)).2⟩
  · exact ⟨k _ _ (hn p hp) (N p (.tail _ hp)).1, (N p (.tail _ hp)).2⟩
theorem news_new {h h' : Heap} {b : Addr} {o : Obj} (F : Fr h₀ L h m) (N : News h₀ L h' news) (hb : b = h.objs.size) (ho : h'.get? b = some o) : News h₀ L h' ((b, o) :: news) := fun p hp => by
  rcases List.mem_cons.mp hp with rfl | hp
  · subst hb
    refine ⟨ho, fun q => ?_, ?_⟩
    · obtain ⟨oL, es, ep, hL, r⟩ := F.ns
      exact absurd (Heap.lt_size hL) (by rw [← q]; exact Nat.lt_irrefl _)
    · cases z : h₀.get? h.objs.size with
      | none => rfl
      | some o => exact absurd (Heap.lt_size (F.keep _ _ z)) (Nat.lt_irrefl _)
  · exact N p hp
theorem lt_new {h : Heap} (N : News h₀ L h news) : ∀ p ∈ news, p.1 < h.objs.size := fun p hp => Heap.lt_size (N p hp).1
variable {nm q : PySem.Str} {N' : Addr} {bs : List Value} {sn : List PySem.Str} {sub : List Value} {ab : Bool} {col : Option Bool} {dd : Option Addr} {k0 k1 k2 k3 k5 : Option Value} {newId : String} {tt : Addr} {v : Value} {name : PySem.Str}
@[reducible] noncomputable def excB : List Value := [.type "Exception", .type "BaseException", .type "object"]
theorem mw_K {b : Addr} {Q : Value → Shared → Prop} (F : Fr h₀ L s.heap m) (X₀ : K.In h₀) (N : News h₀ L s.heap ((x, excN C tt) :: news)) (hb : (b, mwO x) ∈ news) (hn : ∀ p ∈ news, p.1 ≠ x) (hC : K.lookup C = some (excClassObj nm q C N' bs excB true sn sub ab col dd k0 k1 k2 k3 k5 newId))
    (h : ∀ t' h', Fr h₀ L h' m → News h₀ L h' ((t', tupX [v]) :: (x, excN C t') :: news) → (∀ p ∈ (x, excN C tt) :: news, p.1 < t') → Q .none { s with heap := h' }) :
    wpAny (model prog w) A (call (.ref b) [v]) Q E s := by
  have hC := (X₀.keeps F.keep) _ _ hC
  obtain ⟨hh, g, d, t, os⟩ := s
  refine mw_call hC (N _ (.head _)).1 (N _ (.tail _ hb)).1 fun h' h1 h2 h3 _ => ?_
  have F' := fr_chg F N h3
  exact h _ _ F' (news_new F (news_chg N h3 h1 hn) rfl h2) (lt_new N)
theorem keeps_mw {M : Model} {b : Addr} (h : Heap) (X : h.get? b = some (mwO x)) : ∃ k, (k = Keeper.frame ∨ k = Keeper.machine ∨ k = Keeper.boundFrame) ∧ Looks M h (keeperOf (.ref b)) k :=
  ⟨.machine, .inr (.inl rfl), (Looks.ld (part := none) X).andThen .now⟩
theorem callWith_mw {M : Model} {b : Addr} {env : Env} {pos : Pos} {e : PySem.Expr} {Q : Value → Shared → Prop} (h : wpAny M A (spliced (backTo pos (starEach [e] env))) (fun vs s₁ => s₁.heap.get? b = some (mwO x) ∧ wpAny M A (call (.ref b) ([] ++ vs)) Q E s₁) E s)
    (he : starEach [e] env = (false, eval e env) :: starEach [] env := by rfl) :
    wpAny M A (callWith pos (.ref b) [] (backTo pos (starEach [e] env)) []) Q E s := by
  rw [he] at h ⊢
  exact callWith_of rfl keeps_mw (evalArgs_plain h)
noncomputable def DictO (oD : Obj) (mA : PySem.Str → Option Value) : Prop := ∃ es ep, oD.data = .dict es ep ∧ StrKeys es ∧ UniqKeys es ∧ ∀ y, nsFind es y = mA y
theorem DictO.ns1 {oD : Obj} {mA : PySem.Str → Option Value} {h : Heap} {D : Addr} (x : DictO oD mA) (e : h.get? D = some oD) : h.Ns1 D mA := let ⟨es, ep, r⟩ := x; ⟨oD, es, ep, e, r⟩
theorem ns1_obj {mA : PySem.Str → Option Value} {h : Heap} {D : Addr} (x : h.Ns1 D mA) : ∃ oD, h.get? D = some oD ∧ DictO oD mA := let ⟨oD, es, ep, e, r⟩ := x; ⟨oD, e, es, ep, r⟩
theorem DictO.slots {oD : Obj} {mA : PySem.Str → Option Value} {sl : Array (Option Value)} (x : DictO oD mA) : DictO { oD with slots := sl } mA := x
theorem DictO.notF {oD : Obj} {mA : PySem.Str → Option Value} (x : DictO oD mA) : ∀ vs, oD.data ≠ .fields vs := fun vs q => by
  obtain ⟨es, ep, e, _⟩ := x
  rw [e] at q; cases q
theorem ns_ne {mA m : PySem.Str → Option Value} {h : Heap} {D L : Addr} {y : PySem.Str} (x : h.Ns1 D mA) (z : h.Ns L m) (h1 : mA y = none) (h2 : (m y).isSome = true) : D ≠ L := by
  rintro rfl
  obtain ⟨o, es, ep, e, hd, _, _, f⟩ := x
  obtain ⟨o', es', ep', e', hd', _, f'⟩ := z
  rw [e] at e'; cases e'
  rw [hd] at hd'; cases hd'
  rw [← f' y, f y, h1] at h2; cases h2
variable {Q : Unit → Shared → Prop}
theorem set1_K (F : Fr h₀ L s.heap m) (X₀ : K.In h₀) (N : News h₀ L s.heap ((x, excN C tt) :: news)) (hC : K.lookup C = some (excClassObj nm q C N' bs excB true sn sub ab col dd k0 k1 k2 k3 k5 newId)) (hk : nsOkIn K N' = true)
    (hns : nsIn K N' "__setattr__" = some none) (hna : nsIn K N' name = some none) (hB : typeLookup (.type "Exception") name = pure none) (hn : ∀ p ∈ news, p.1 ≠ x)
    (h : ∀ D oD h' tk', Fr h₀ L h' m → News h₀ L h' ((D, oD) :: (x, { excN C tt with dict := some D }) :: news) → DictO oD (fun y => if y = name then some v else none) → (∀ p ∈ (x, excN C tt) :: news, p.1 < D) → Q () { s with heap := h', toks := tk' }) :
    wpAny (model prog w) A (setAttr (.ref x) name v) Q E s := by
  have X : K.In s.heap := X₀.keeps F.keep
  have Nn : s.heap.Ns N' (s.heap.nsMap N') := .of_isNs (isNs_of_in X hk)
  obtain ⟨hh, g, d, t, os⟩ := s
  refine store_first_attr PySem.F.store_Exception (X _ _ hC) Nn (nsMap_none_of_in X hk hns) (nsMap_none_of_in X hk hna) hB (N _ (.head _)).1 rfl (fun c e => nomatch e) rfl fun h' tk' h1 h2 h3 => ?_
  obtain ⟨oD, e, x2⟩ := ns1_obj h2
  have F' := fr_chg F N h3
  exact h _ _ h' tk' F' (news_new F (news_chg N h3 h1 hn) rfl e) x2 (lt_new N)
theorem set2_K {D : Addr} {oD : Obj} {mA : PySem.Str → Option Value} {ns : List PySem.Str} (F : Fr h₀ L s.heap m) (X₀ : K.In h₀) (N : News h₀ L s.heap ((x, { excN C tt with dict := some D }) :: (D, oD) :: news)) (hC : K.lookup C = some (excClassObj nm q C N' bs excB true sn sub ab col dd k0 k1 k2 k3 k5 newId)) (hk : nsOkIn K N' = true)
    (hns : nsIn K N' "__setattr__" = some none) (hna : nsIn K N' name = some none) (hB : typeLookup (.type "Exception") name = pure none) (hn : ∀ p ∈ news, p.1 ≠ x) (hn2 : ∀ p ∈ news, p.1 ≠ D) (hxD : D ≠ x) (hD : DictO oD mA) (hw : Within mA ns) (hsz : ns.length ≤ sizeLine)
    (h : ∀ oD' h' tk', Fr h₀ L h' m → News h₀ L h' ((x, { excN C tt with dict := some D }) :: (D, oD') :: news) → DictO oD' (fun y => if y = name then some v else mA y) → Q () { s with heap := h', toks := tk' }) :
    wpAny (model prog w) A (setAttr (.ref x) name v) Q E s := by
  have X : K.In s.heap := X₀.keeps F.keep
  have Nn : s.heap.Ns N' (s.heap.nsMap N') := .of_isNs (isNs_of_in X hk)
  have hx := (N _ (.head _)).1
  have hd := (N _ (.tail _ (.head _))).1
  have I : s.heap.Inst x C mA := ⟨_, hx, rfl, (fun c e => nomatch e), .inr ⟨D, rfl, hxD, hD.ns1 hd⟩⟩
  have hxC : x ≠ C := by
    rintro rfl
    have := X _ _ hC
    rw [hx] at this; cases this
  obtain ⟨hh, g, d, t, os⟩ := s
  refine store_attr PySem.F.store_Exception (X _ _ hC) Nn (nsMap_none_of_in X hk hns) (nsMap_none_of_in X hk hna) hB hxC I (fun h' tk' I' hk' hs => ?_) hw hsz
  obtain ⟨o₁, e1, e2, e3, e4, e5⟩ := hs _ hx
  have e5 := e5 D rfl
  have e1' : h'.get? x = some { excN C tt with dict := some D } := by
    rw [e1]
    obtain ⟨c1, d1, dt1, sl1⟩ := o₁
    change c1 = _ at e2
    change dt1 = _ at e3
    change sl1 = _ at e4
    change d1 = _ at e5
    rw [e2, e3, e4, e5]
  obtain ⟨o2, f1, f2, f3, f4⟩ := I'
  rw [e1'] at f1
  cases f1
  rcases f4 with ⟨f4, _⟩ | ⟨D', f4, f5, f6⟩
  · cases f4
  cases f4
  obtain ⟨oD', g1, g2⟩ := ns1_obj f6
  have keep : ∀ b o, b ≠ x → b ≠ D → hh.get? b = some o → h'.get? b = some o := fun b o h1 h2 ho => hk' b o h1 (fun o₀ dx q1 q2 => by rw [hx] at q1; cases q1; cases q2; exact h2) ho
  have PD := N _ (.tail _ (.head _))
  have Px := N _ (.head _)
  obtain ⟨oL, es, ep, hL, r⟩ := F.ns
  refine h oD' h' tk' ⟨⟨oL, es, ep, keep _ _ (Ne.symm Px.2.1) (Ne.symm PD.2.1) hL, r⟩, fun b o e => keep _ _ (fun q => ?_) (fun q => ?_) (F.keep _ _ e), F.above⟩ (fun p hp => ?_) g2
  · have := Px.2.2
    rw [← q, e] at this; cases this
  · have := PD.2.2
    rw [← q, e] at this; cases this
  · rcases List.mem_cons.mp hp with rfl | hp
    · exact ⟨e1', Px.2⟩
    · rcases List.mem_cons.mp hp with rfl | hp
      · exact ⟨g1, PD.2⟩
      · exact ⟨keep _ _ (hn p hp) (hn2 p hp) (N p (.tail _ (.tail _ hp))).1, (N p (.tail _ (.tail _ hp))).2⟩
end
end Mine
end
section
set_option maxHeartbeats 400000
namespace Mine
@[reducible] noncomputable def excD (C t : Addr) (d : Option Addr) : Obj := { cls := .ref C, dict := d, data := .fields #[.ref t, .none, .none, .none, .bool false, .none] }
section
variable {M : Model} {A : Around} {E : Value → Shared → Prop} {s' : Shared} {base g : Heap} {outer : List Env} {L a e t C : Addr} {d : Option Addr} {m : PySem.Str → Option Value} {name : PySem.Str} {scope : Scope} {cd : Value} {Q : Unit → Shared → Prop} {news : List (Addr × Obj)} {vs : List Value}
/-- an own exception with a dict leaves the frame that raised it -/
theorem leave_berr (K : Below A base outer g) (F : Fr g L s'.heap m) (N : News g L s'.heap ((e, excD C t d) :: (t, tupX vs) :: news)) (hne : ∀ p ∈ news, p.1 ≠ e ∧ p.1 ≠ t)
    (hQ : ∀ h', RaisedS base g outer e (.ref C) t vs news h' → HasD e d h' → g.UpToSlots h' → Q () { s' with heap := h' }) (hk : scope.kind = .function := by rfl) :
    wpAny M (A.deeper (envOf name scope L a cd)) (leaving (envOf name scope L a cd) (.ref e)) Q E s' := by
  have K' := K.push (name := name) (a := a) (cd := cd) F hk
  have Pe := N _ (.head _)
  have Pt := N _ (.tail _ (.head _))
  let fs := (envOf name scope L a cd :: outer).filterMap (·.frame)
  have hfs : ∀ b ∈ fs, b = L ∨ ∃ o, g.get? b = some o := fun b hb => by
    rcases kts_mem hb with z | z
    · exact .inl z
    · obtain ⟨_, o, ho, _⟩ := K.frames.mem z
      exact .inr ⟨o, ho⟩
  have hin : ∀ env ∈ (envOf name scope L a cd :: outer), ∀ b, env.frame = some b → b ∈ e :: t :: fs := fun env he b hb => .tail _ (.tail _ (List.mem_filterMap.mpr ⟨env, he, hb⟩))
  have sg : ∀ b o, g.get? b = some o → b ∉ outer.filterMap (·.frame) → (hideAll s'.heap (e :: t :: fs)).get? b = some o := fun b o q nm => hideAll_get _ (F.keep b o q) fun hm => by
    rcases List.mem_cons.mp hm with z | hm
    · have := Pe.2.2; rw [← z, q] at this; cases this
    rcases List.mem_cons.mp hm with z | hm
    · have := Pt.2.2; rw [← z, q] at this; cases this
    rcases kts_mem hm with z | z
    · rw [z, kts_self F] at q; cases q
    · exact nm z
  have st : base.StaysIn (hideAll s'.heap (e :: t :: fs)) := fun b o q => sg b o (K.stays b o q) fun hm => by
    rw [(K.frames.mem hm).1] at q; cases q
  have nf : ∀ q ∈ news, q.1 ∉ e :: t :: fs := fun q hq hm => by
    have P := N q (.tail _ (.tail _ hq))
    rcases List.mem_cons.mp hm with z | hm
    · exact (hne q hq).1 z
    rcases List.mem_cons.mp hm with z | hm
    · exact (hne q hq).2 z
    rcases hfs _ hm with z | ⟨o, z⟩
    · exact P.2.1 z
    · rw [P.2.2] at z; cases z
  have hl : ∀ q ∈ news, (hideAll s'.heap (e :: t :: fs)).get? q.1 = some q.2 ∧ g.get? q.1 = none ∧ base.get? q.1 = none := fun q hq =>
    have P := N q (.tail _ (.tail _ hq))
    ⟨hideAll_get _ P.1 (nf q hq), P.2.2, fresh_of_stays K.stays P.2.2⟩
  have he0 : (hideAll s'.heap (e :: t :: fs)).get? e = none := hideAll_none _ (.head _)
  have ht0 : (hideAll s'.heap (e :: t :: fs)).get? t = none := hideAll_none _ (.tail _ (.head _))
  have W : wpAny M (A.deeper (envOf name scope L a cd)) (leaving (envOf name scope L a cd) (.ref e)) (fun _ s => ∃ h', s = { s' with heap := h' } ∧ RaisedS base g outer e (.ref C) t vs news h' ∧ g.UpToSlots h') E s' :=
    wpAny_leaving_firstW (a0 := .ref t) K'.stack (funFrames_hide K'.frames hin) rfl Pe.1 (fun b o q => of_hideAll _ q) he0 rfl rfl rfl fun h' hL => by
      obtain ⟨k1, ⟨_, _, k2⟩, k3, k4⟩ := hL
      exact ⟨h', rfl, ⟨⟨_, st, sg, hl, ⟨k1, he0, k2, k3⟩, ht0⟩, Heap.TupAt.of_slots ⟨_, _, Pt.1, rfl, rfl⟩ k4⟩, (Heap.UpToSlots.of_keeps F.keep).trans k4⟩
  refine wpAny_mono (keep_leaving.any (e := e) (d := d) ⟨_, Pe.1, rfl⟩ W) (fun _ s h => ?_) fun _ _ z => z
  obtain ⟨⟨h', rfl, h1, h2⟩, h3⟩ := h
  exact hQ h' h1 h3 h2
end
section
variable {prog : Program} {w : World} {A₀ : Around} {E : Value → Shared → Prop} {s' : Shared} {base g g₀ G : Heap} {outer : List Env} {L a e t C : Addr} {d : Option Addr} {m : PySem.Str → Option Value} {name : PySem.Str} {scope : Scope} {cd : Value}
  {vs : List Value} {n : PySem.Str} {b₀ : Stmt} {suite : List Stmt} {pos np : Pos} {rest : List ExceptHandler} {Q : Flow → Shared → Prop} {news : List (Addr × Obj)} {KF : Frag}
  {p : Program} {loose : List PySem.Str} {mean : ExcName → Option Value} {mg mb : PySem.Str → Option Value} {x : PySem.Str}
theorem exh_k {s' s : Shared} {P S R : Heap → Prop} (G : Shared → Prop) (z : (∃ h', s = { s' with heap := h' } ∧ P h' ∧ S h') ∧ R s.heap) (k : ∀ h', P h' → S h' → R h' → G { s' with heap := h' }) : G s := by
  obtain ⟨⟨h', rfl, h1, h2⟩, h3⟩ := z
  exact k h' h1 h2 h3
theorem kts_cls_k {K : Frag} {h : Heap} {C : Addr} {T : String} {P : Prop} (X : K.In h) (q : ktsIn K C T = true) (k : ∀ nm qn N bs bm hdct sn sub ab col dd k0 k1 k2 k3 k5 newId, h.get? C = some (excClassObj nm qn C N bs bm hdct sn sub ab col dd k0 k1 k2 k3 k5 newId) → bm.contains (.type T) = true → P) : P := by
  obtain ⟨nm, q', N, bs, bm, hdct, sn, sub, ab, col, dd, k0, k1, k2, k3, k5, newId, hC, _, hbT⟩ := kts_cls X q
  exact k _ _ _ _ _ _ _ _ _ _ _ _ _ _ _ _ _ hC hbT
/-- the clause that names an own exception's class takes it; its dict is the one it was raised with -/
theorem caught_berr (R : RaisedS base G (envOf name scope L a cd :: outer) e (.ref C) t vs news s'.heap) (HD : HasD e d s'.heap) (F : Fr g L G m) (K : Below A₀ base outer g) (hsm : G.UpToSlots s'.heap) (XB : KF.In base) (TB : Top p loose mean mg mb base)
    (D : KtsDicts (outer.filterMap (·.frame)) g) (ex : nsIn KF mainGlobals x = some (some (.ref C))) (q : ktsIn KF C "BaseException" = true)
    (k : ∀ h' g' oe tk, KtsTurn (outer.filterMap (·.frame)) g g' → Fr g' L h' (fun y => if y = n then some (.ref e) else m y) → News g' L h' ((e, oe) :: news) → oe.cls = .ref C → oe.dict = d → notCls oe = true → Below A₀ base outer g' → KF.In g' → Top p loose mean mg mb g' → KtsDicts (outer.filterMap (·.frame)) g' →
      wpAny (model prog w) ((A₀.deeper (envOf name scope L a cd)).mark (some (.ref e))) (execs (b₀ :: suite) (envOf name scope L a cd))
        (fun f s₄ => wpAny (model prog w) (A₀.deeper (envOf name scope L a cd)) (do bindName (envOf name scope L a cd) n .none; unbindBehindTheSuite (envOf name scope L a cd) n pos) (fun _ s₅ => Q f s₅) E s₄)
        (AsSuiteRaised (model prog w) ((A₀.deeper (envOf name scope L a cd)).mark (some (.ref e))) (envOf name scope L a cd) n pos (notedBy (model prog w) ((A₀.deeper (envOf name scope L a cd)).mark (some (.ref e))) (envOf name scope L a cd) (cameBackBy (model prog w) (A₀.deeper (envOf name scope L a cd)) (envOf name scope L a cd) E)))
        { s' with heap := h', toks := tk })
    (hk : scope.kind = .function := by rfl) (hlo : (envOf name scope L a cd).kindOf n = some .local := by rfl) (hx : (envOf name scope L a cd).kindOf x = some .globalImplicit := by rfl) (hd : (x == ("__debug__" : PySem.Str)) = false := by decide) :
    wpAny (model prog w) (A₀.deeper (envOf name scope L a cd)) (noteFrame (.ref e) (envOf name scope L a cd))
      (fun _ s₂ => wpAny (model prog w) (A₀.deeper (envOf name scope L a cd)) (setFlight (.ref e) none) (fun _ s₃ =>
        wpAny (model prog w) (A₀.deeper (envOf name scope L a cd)) (handleBy (.ref e) (envOf name scope L a cd) (.ExceptHandler (some (.Name x np)) (some n) (b₀ :: suite) pos :: rest)) Q E s₃) E s₂) E s' := by
  obtain ⟨⟨B, hB, hBG, hl, hfl, hnew⟩, htup⟩ := R
  have hL : B.get? L = none := by
    obtain ⟨_, ⟨L', _, hf, hn', _⟩, _⟩ := hfl.2.2.1
    obtain rfl : L = L' := Option.some.inj hf
    exact hn'
  have W1 : wpAny (model prog w) (A₀.deeper (envOf name scope L a cd)) (noteFrame (.ref e) (envOf name scope L a cd)) (fun _ s => ∃ h4, s = { s' with heap := h4 } ∧ Heap.HeldW B (envOf name scope L a cd :: outer) e (.ref C) (.ref t) L h4 ∧ s'.heap.UpToSlots h4) E s' :=
    wpAny_looks_onW (Around.frames_deeper K.stack) rfl hfl fun h4 a1 a2 => ⟨h4, rfl, a1, a2⟩
  refine wpAny_mono (keep_note.any HD W1) (fun _ s z => exh_k (fun s => wpAny _ _ _ _ _ s) z fun h4 held4 sm4 HD4 => ?_) fun _ _ z => z
  have W2 : wpAny (model prog w) (A₀.deeper (envOf name scope L a cd)) (setFlight (.ref e) none) (fun _ s => ∃ h5, s = { s' with heap := h5 } ∧ Heap.FlyingW B (envOf name scope L a cd :: outer) e (.ref C) (.ref t) h5 ∧ h4.UpToSlots h5) E { s' with heap := h4 } :=
    wpAny_landsW held4 fun h5 a1 a2 => ⟨h5, rfl, a1, a2⟩
  refine wpAny_mono (keep_flight.any HD4 W2) (fun _ s z => exh_k (fun s => wpAny _ _ _ _ _ s) z fun h5 held sm5' HD5 => ?_) fun _ _ z => z
  have sm5 := sm4.trans sm5'
  obtain ⟨g5, T5, F5, K5⟩ := kts_ground K F hBG held.1 (hsm.trans sm5)
  have X5 : KF.In g5 := XB.keeps K5.stays
  have P5 : TopRead p loose mg mb g5 := topRead_of (TB.keeps K5.stays)
  obtain ⟨ob, hob, hobc⟩ := held.there
  refine kts_cls_k X5 q fun nm q' N bs bm hdct sn sub ab col dd k0 k1 k2 k3 k5 newId hC hbase => ?_
  have hC5 := F5.keep _ _ hC
  refine wpAny_handleBy_cons (codeAny_handlers_test (name_K F5 X5 P5 ex ?_ hk hx hd)) (by intro q; cases q)
  refine wpAny_excMatches_sub_self hC5 hob hobc hbase (codeAny_handlers_suite_as ?_)
  have W3 : wpAny (model prog w) ((A₀.deeper (envOf name scope L a cd)).mark (some (.ref e))) (setFlight (.ref e) none) (fun _ s => ∃ h6, s = { s' with heap := h6 } ∧ Heap.FlyingW B (envOf name scope L a cd :: outer) e (.ref C) (.ref t) h6 ∧ h5.UpToSlots h6) (fun _ _ => False) { s' with heap := h5 } :=
    lands_againW held fun h6 a1 a2 => ⟨h6, rfl, a1, a2⟩
  refine wpAny_mono (keep_flight.any HD5 W3) (fun _ s z => exh_k (fun s => wpAny _ _ _ _ _ s) z fun h6 hfl6 sm6 HD6 => ?_) fun _ _ z => z.elim
  have smG := (hsm.trans sm5).trans sm6
  obtain ⟨g6, T6, F6, K6⟩ := kts_ground K F hBG hfl6.1 smG
  obtain ⟨oe, ws, hoe, hoec, hoed, hoe0⟩ := hfl6.first
  obtain ⟨oe', hoe', hde⟩ := HD6
  rw [hoe] at hoe'
  cases hoe'
  have ne6 : g6.get? e = none := T6.none_ _ (kts_fresh F hBG hfl6.2.1 fun o ho m => by
    obtain ⟨_, o', ho', hd⟩ := K.frames.mem m
    rw [ho] at ho'
    cases ho'
    obtain ⟨sl, hs⟩ := smG _ _ (F.keep _ _ ho) hd
    rw [hoe] at hs
    cases hs
    exact hd _ hoed)
  have N6 := News.more F6 News.nil hoe (fun es n q => by rw [hoed] at q; cases q) ne6
  have Nl : News g6 L h6 news := fun q hq => ⟨hfl6.1 _ _ (hl q hq).1, (fun z => by have := (hl q hq).1; rw [z, hL] at this; cases this), T6.none_ _ (kts_none F.keep (hl q hq).2.1)⟩
  refine stN F6 (news := _ ++ news) (fun q hq => (List.mem_append.mp hq).elim (N6 q) (Nl q)) (fun h7 F7 N7 => ?_) hk hlo
  exact k h7 g6 oe _ T6 F7 N7 hoec hde (by unfold notCls; rw [hoed]) K6 (XB.keeps K6.stays) (TB.keeps K6.stays) (D.turn T6)
theorem bga_kind : builtinKind "BaseException.__getattribute__" = some .slot := by decide +kernel
theorem bga_split : splitId "BaseException.__getattribute__" = some ("BaseException", "__getattribute__") := by decide +kernel
/-- an own exception's attribute -/
theorem berr_get {A : Around} {name : PySem.Str} {ox : Obj} {od : Option Obj} {x : Addr} {s : Shared} {expr : Bool} {v : Value} {Q : Value → Shared → Prop} (X : KF.In s.heap) (I : InstAt s.heap x ox C od) (hga : findIn KF (.ref C) "__getattribute__" = some (some (.builtin "BaseException.__getattribute__")))
    (hgn : findIn KF (.ref C) "__getattr__" = some none) (hsub : mroIn KF C (.type "BaseException") = some true)
    (hf : findObj KF C od name = some (.value v)) (hh : handedIn v = true) (h : Q v { s with toks := s.toks + 1 }) : wpAny (model prog w) A (getAttr (.ref x) name expr) Q E s := by
  obtain ⟨hp, g, d, t, os⟩ := s
  have L0 := I.type (M := model prog w)
  have L1 := looks_findIn (M := model prog w) X hga
  have L2 := looks_find (M := model prog w) X I hf
  have hcan : (Manifest.canonical "BaseException.__getattribute__" != "object.__getattribute__") = false := by decide +kernel
  unfold getAttr getAttrBy
  refine wpAny_bind (wpAny_mkText (wpAny_holding (wpAny_bind (L0.at (wpAny_bind (L1.at ?_))))))
  have L3 := looks_findIn (M := model prog w) X hgn
  have L4 : Looks (model prog w) hp (isInstance (.ref x) (.type "BaseException")) true := L0.andThen (looks_mroIn X hsub)
  have hx2 : (Value.builtin "BaseException.__getattribute__" == Value.builtin "object.__getattribute__") = false := by decide +kernel
  have hx0 : (expr && onTheHeap (Value.builtin "BaseException.__getattribute__")) = false := by cases expr <;> rfl
  show wpAny _ _ (if (onTheHeap (Value.ref C) && Value.builtin "BaseException.__getattribute__" == Value.builtin "object.__getattribute__") = true then _ else getAttrByItsOwn (.ref x) (.str name t) (.ref C) (.builtin "BaseException.__getattribute__") true expr) _ _ ⟨hp, g, d, t + 1, os⟩
  rw [hx2, Bool.and_false, if_neg Bool.false_ne_true]
  unfold getAttrByItsOwn hookBefore callGetattribute boundAndCalled
  rw [hx0]
  refine wpAny_bind ?_
  show wpAny _ _ (typeLookup (.ref C) "__getattr__") _ _ _
  refine L3.at ?_
  refine wpAny_bind (wpAny_attempt (wpAny_holding ?_))
  refine wpAny_bind (wpAny_of_eq (PySem.F.attr_Exception.ga.bind _) ?_)
  refine wpAny_call (codeAny_call_builtin PySem.F.attr_Exception.ga.plain PySem.F.entry_bexc_ga ?_)
  show wpAny _ _ (checkBuiltinCall "BaseException.__getattribute__" ⟨[.ref x, .str name t], []⟩) _ _ _
  refine @check_slot (model prog w) _ _ ⟨hp, g, d, t + 1, os⟩ "BaseException.__getattribute__" "BaseException" "__getattribute__" (.ref x) [.str name t] [] _ bga_kind bga_split L4 (PySem.F.args_bexc_ga (.ref x) (.str name t)) ?_
  show wpAny _ _ (Builtin.«object.__getattribute__» ⟨[.ref x, .str name t], []⟩) _ _ _
  unfold Builtin.«object.__getattribute__»
  refine wpAny_bind (wpAny_pure (wpAny_bind (wpAny_pure (wpAny_bind (L0.at (wpAny_bind (L2.at ?_)))))))
  refine wpAny_pure ?_
  show wpAny _ _ (handedOut v) _ _ _
  rw [handedOut_of hh]
  exact wpAny_pure h
theorem find_fv {oD : Obj} {mA : PySem.Str → Option Value} {y : PySem.Str} {v : Value} (h : DictO oD mA) (e : mA y = some v) : lookIn y oD = some (some v) := by
  obtain ⟨es, ep, hd, _, _, hf⟩ := h
  have := hf y
  rw [e] at this
  unfold lookIn
  rw [hd]
  obtain ⟨l⟩ := es
  unfold nsFind findBy at this
  rw [List.find?_toArray] at this
  show (match List.find? (fun x => x.key.isStr y) l with
      | some e => some (some e.val)
      | none => if (l.any fun x => x.refKey) = true then none else some none) = some (some v)
  cases hq : List.find? (fun x => x.key.isStr y) l with
  | some e' => rw [hq] at this; simpa using this
  | none => rw [hq] at this; cases this
end
end Mine
end
section
namespace Mine
section
variable {prog : Program} {w : World} {A₀ A : Around} {s : Shared} {base h₀ : Heap} {L : Addr} {m : PySem.Str → Option Value} {env : Env} {news : List (Addr × Obj)} {K : Frag} {p : Program} {loose : List PySem.Str} {mean : ExcName → Option Value} {mg mb : PySem.Str → Option Value}
    {R : Result → Shared → Prop} {name qual : PySem.Str} {params : Arguments} {body : List Stmt} {scope : Scope} {dV kV doc pm cdv ct oc : Value} {an od : Option Addr} {osl : Array (Option Value)} {f : Addr} {args : Args} {binds : List (PySem.Str × Value)}
/-- a def that catches, called from a frame that may have cells -/
theorem defS_cells (B : Below A₀ base [] h₀) (F : Fr h₀ L s.heap m) (X₀ : K.In h₀) (N : News h₀ L s.heap news) (T : Top p loose mean mg mb h₀) (hA : A.frames = some [env]) (hf : env.frame = some L) (hke : env.scope.kind = .function)
    (ho : K.lookup f = some ⟨oc, od, .func (fnOf name qual params body scope dV kV doc pm an cdv ct), osl⟩) (hcd : codeIn K cdv qual = true) (hroom : A.depth < recursionLimit)
    (hbind : BindsTo s (fnOf name qual params body scope dV kV doc pm an cdv ct) args binds) (hloc : ∀ y ∈ binds, scope.names.lookup y.1 = some .local)
    (h : ∀ g L' h₁, Fr h₀ L g m → Fr g L' h₁ (fun y => binds.reverse.lookup y) → News g L' h₁ news → Below A base [env] g → K.In g → Top p loose mean mg mb g → KtsDicts ([env].filterMap (·.frame)) g →
      wpAny (model prog w) (A.deeper (envOf qual scope L' f cdv)) (execs body (envOf qual scope L' f cdv))
        (fun fl s' => LeaveS0 ([env].filterMap (·.frame)) h₀ L m g R (match fl with | .ret v => v | _ => .none) s')
        (fun e s' => wpAny (model prog w) (A.deeper (envOf qual scope L' f cdv)) (leaving (envOf qual scope L' f cdv) e) (fun _ s'' => R (.error e) s'') (fun e' s'' => R (.error e') s'') s')
        { s with heap := h₁, toks := s.toks + binds.length })
    (hco : scope.isCoroutine = false) (hgen : scope.isGenerator = false) (hk : scope.kind = .function)
    (hcell : ∀ x ∈ scope.names, x.2 ≠ .cell) : codeAny (model prog w) A (.call (.ref f) args) R s := by
  have X := X₀.keeps F.keep
  have hfl : ([env].filterMap (·.frame)) = [L] := by simp [hf]
  obtain ⟨FG, BG, st, _⟩ := groundX (R := R) B F N hA hf hke
  obtain ⟨oL, es, ep, hLg, hLd, hLk⟩ := id FG.ns
  refine codeAny_call_def (fd := fnOf name qual params body scope dV kV doc pm an cdv ct) (body := body) (binds := binds) hroom (X _ _ ho) rfl (T.nolimit.keeps F.keep) (codeRec_of X hcd) rfl hbind hcell hloc (fun h₁ hns hk₁ => ?_) hco hgen hk
  have D : KtsDicts ([env].filterMap (·.frame)) (hideAll s.heap (news.map (·.1))) := fun b hb => by
    rw [hfl] at hb
    rw [List.mem_singleton.mp hb]
    exact ⟨oL, es, ep, hLg, hLd⟩
  refine wpAny_mono (h _ s.heap.objs.size h₁ FG ⟨hns, fun b o e => hk₁ b o (of_hideAll _ e), Nat.le_of_eq (hideAll_size _ _)⟩
    (fun p hp => ⟨hk₁ _ _ (N p hp).1, Nat.ne_of_lt (Heap.lt_size (N p hp).1), hideAll_none _ (List.mem_map_of_mem hp)⟩) BG (X₀.keeps st) (T.keeps st) D) (fun fl s' hl => ?_) fun _ _ y => y
  obtain ⟨g', L', m', news', T', F', N', k⟩ := hl
  have nL : h₀.get? L = none := kts_self F
  obtain ⟨sl, hs⟩ := T'.up hLg
  refine k ⟨⟨_, es, ep, F'.keep _ _ hs, hLd, hLk⟩, fun b o e => F'.keep b o (T'.other b o (st b o e) (fun q => by
    rw [hfl] at q
    rw [List.mem_singleton.mp q, nL] at e
    cases e)), F.above⟩ fun p hp => ⟨(N' p hp).1, fun q => ?_, ?_⟩
  · have := (N' p hp).2.2
    rw [q, hs] at this; cases this
  · cases q : h₀.get? p.1 with
    | none => rfl
    | some o =>
      obtain ⟨sl', hs'⟩ := T'.up (st _ _ q)
      have := (N' p hp).2.2
      rw [hs'] at this; cases this
end
end Mine
end
section
namespace Mine
section
variable {prog : Program} {w : World} {A : Around} {E : Value → Shared → Prop} {s : Shared} {env : Env} {h₀ : Heap} {body : List Stmt} {Q : Flow → Shared → Prop}
theorem iter_rangeTurns {x : PySem.Str} {px : Pos} {r : Addr} {a₀ b₀ : Int} {t₀ u₀ v₀ : Tok} {n : Nat} {m₀ : PySem.Str → Option Value} {news : List (Addr × Obj)}
    (hh : A.handled = none) (hr : IsRange s.heap r a₀ b₀ 1 t₀ u₀ v₀) (hsmall : Builtin.Range.small a₀ b₀ 1 = true) (hn : Builtin.Range.rangeSize a₀ b₀ 1 = (n : Int)) (F : Fr h₀ env.locals s.heap m₀) (N : News h₀ env.locals s.heap news)
    (rest₀ : ∀ I : Addr, (∀ p ∈ news, p.1 < I) → ItemsRest prog w A E h₀ env (.Name x px) body Q s [(I, "range_iterator")] [] ((rangeKs a₀ n).map fun k => .tok (fun t => .int k t)) m₀ news) :
    wpAny (model prog w) A (pyIter (.ref r)) (fun it s₂ => TurnsAt prog w A h₀ env (.Name x px) body Q E it s₂) E s := by
  refine wpAny_pyIter_range hr hsmall ?_
  have W : Walks prog w A s.heap.objs.size [s.heap.objs.size] [s.heap.objs.size] n (fun i v => i < n ∧ ∃ t, v = .int (a₀ + i * 1) t)
      (fun i h => IsRangeIter h s.heap.objs.size (a₀ + (i : Nat) * 1) ((n : Int) - (i : Nat)) 1) := (Walks.range hh _ a₀ 1 n).bound
  refine ktu_core (tk0 := _) (keep := []) (ws := [(s.heap.objs.size, "range_iterator")]) (KTurns.ofWalks W fun i v s Q E st q => wpAny_pure q) (by simp [rangeKs]) (fun i v h hp => ?_) (fun i h st => ?_) (fun b hb => ?_) (fun b hb => by simpa using hb) (fun b hb => ?_) ?_ (fun p hp hI => ?_) ?_ (F.push _) (fun p hp => ⟨Heap.get?_push_of_some _ (N p hp).1, (N p hp).2⟩) trivial (rest₀ _ fun p hp => Heap.lt_size (N p hp).1)
  · obtain ⟨hi, t, rfl⟩ := hp
    have e1 : a₀ + (i : Int) * 1 = a₀ + (i : Int) := by omega
    refine ⟨.tok (fun t => .int (a₀ + (i : Int)) t), by simp [rangeKs, hi], t, by rw [e1]⟩
  · exact ⟨[(s.heap.objs.size, _)], ⟨⟨rfl, rfl⟩, trivial⟩, fun p hp => by rw [List.mem_singleton.mp hp]; exact st⟩
  · have hb' : b = s.heap.objs.size := by simpa using hb
    rw [hb']
    exact ⟨List.mem_cons_self .., next_is_new F⟩
  · have hb' : b = s.heap.objs.size := by simpa using hb
    exact .inl (by simp [hb'])
  · intro hI
    exact absurd F.ns.lt ((List.mem_singleton.mp hI) ▸ Nat.lt_irrefl _)
  · exact absurd (Heap.lt_size (N p hp).1) ((List.mem_singleton.mp hI) ▸ Nat.lt_irrefl _)
  · show IsRangeIter _ _ _ _ _
    rw [hn]
    simpa using Heap.get?_push_size _ rfl
end
end Mine
end
section
open PySem PySem.W PyProof.Rows PySem.Spec PySem.Calls PyProof.Rows.LCg
set_option maxHeartbeats 2000000
namespace Mine
/-- off four addresses: both iterators, the block's names, the list under way -/
noncomputable def Off4 (J I C D : Addr) (l : List (Addr × Obj)) : Prop := ∀ p ∈ l, p.1 ≠ J ∧ p.1 ≠ I ∧ p.1 ≠ C ∧ p.1 ≠ D
inductive EnEnd (h₀ : Heap) (L : Addr) (m : PySem.Str → Option Value) (s₁ : Shared) (J : Addr) (oJ : Obj) (I : Addr) (oI : Obj) (C : Addr) (oC : Obj) (D : Addr) (oD : Obj) (k : Addr × Obj) (rest : Value → List (Addr × Obj) → Prop) (y : Value) : Shared → Prop
  | mk {h' tk} (news') : Fr h₀ L h' m → News h₀ L h' ((J, oJ) :: (I, oI) :: (C, oC) :: (D, oD) :: news') → Off4 J I C D news' → k ∈ news' → rest y news' → EnEnd h₀ L m s₁ J oJ I oI C oC D oD k rest y { s₁ with heap := h', toks := tk }
noncomputable def EnRest (prog : Program) (w : World) (A : Around) (h₀ : Heap) (L : Addr) (m : PySem.Str → Option Value) (env : Env) (elt : PySem.Expr) (a b : PySem.Str) (scope : Scope) (cl : List (PySem.Str × Addr)) (s : Shared) (k : Addr × Obj) (Fin : List Value → List (Addr × Obj) → Prop) : Nat → List Value → List Value → List (Addr × Obj) → Prop
  | _, [], ys, news => Fin ys news
  | i, v :: r, ys, news => ∀ (t : Tok) J oJ I oI C oC D m₂ h tk (E' : Value → Shared → Prop), NsObj oC m₂ → m₂ a = some (.int (i : Int) t) → m₂ b = some v → Fr h₀ L h m → News h₀ L h ((J, oJ) :: (I, oI) :: (C, oC) :: (D, lst ys) :: news) → Off4 J I C D news →
      wpAny (model prog w) A (eval elt (compEnvC scope cl C env)) (EnEnd h₀ L m { s with heap := h, toks := tk } J oJ I oI C oC D (lst ys) k (fun y news' => EnRest prog w A h₀ L m env elt a b scope cl s k Fin (i + 1) r (ys ++ [y]) news')) E' { s with heap := h, toks := tk }
inductive EnSrc (prog : Program) (w : World) (A : Around) (h₀ : Heap) (L : Addr) (m : PySem.Str → Option Value) (env : Env) (elt : PySem.Expr) (a b : PySem.Str) (scope : Scope) (cl : List (PySem.Str × Addr)) (Fin : Shared → List Value → List (Addr × Obj) → Prop) : Value → Shared → Prop
  | mk {s₁ : Shared} (J I l : Addr) (vs : List Value) (n : Nat) (news : List (Addr × Obj)) : A.handled = none → Fr h₀ L s₁.heap m → News h₀ L s₁.heap news → (l, ({ cls := .type "list", data := .seq vs.toArray n } : Obj)) ∈ news → vs.length ≤ sizeLine → IsEnum s₁.heap J I 0 .none → s₁.heap.IsListIter I l 0 →
    J ≠ I → l ≠ J → l ≠ I → L ≠ J → L ≠ I → h₀.get? J = none → h₀.get? I = none → (∀ p ∈ news, p.1 ≠ J ∧ p.1 ≠ I) →
    (∀ g, EnRest prog w A h₀ L m env elt a b scope cl { s₁ with heap := g } (l, { cls := .type "list", data := .seq vs.toArray n }) (Fin { s₁ with heap := g }) 0 vs [] news) → EnSrc prog w A h₀ L m env elt a b scope cl Fin (.ref J) s₁
/-- between two turns -/
inductive EnI (prog : Program) (w : World) (A : Around) (h₀ : Heap) (L : Addr) (m : PySem.Str → Option Value) (env : Env) (elt : PySem.Expr) (a b : PySem.Str) (scope : Scope) (cl : List (PySem.Str × Addr)) (s₂ : Shared) (J I l : Addr) (vs : List Value) (n : Nat) (C D : Addr) (Fin : List Value → List (Addr × Obj) → Prop) : Nat → Shared → Prop
  | mk {h' tk} (i : Nat) (ys : List Value) (m') (news') : i ≤ vs.length → ys.length = i → (∃ old, IsEnum h' J I i old) → h'.IsListIter I l i → h'.IsList l vs.toArray → Fr h₀ L h' m → h'.Ns C m' → News h₀ L h' ((D, lst ys) :: news') → Off4 J I C D news' → (l, ({ cls := .type "list", data := .seq vs.toArray n } : Obj)) ∈ news' →
    EnRest prog w A h₀ L m env elt a b scope cl s₂ (l, { cls := .type "list", data := .seq vs.toArray n }) Fin i (vs.drop i) ys news' → EnI prog w A h₀ L m env elt a b scope cl s₂ J I l vs n C D Fin (vs.length + 1 - i) { s₂ with heap := h', toks := tk }
section
variable {prog : Program} {w : World} {A : Around} {E : Value → Shared → Prop} {s : Shared} {h₀ : Heap} {L : Addr} {m : PySem.Str → Option Value} {env : Env}
theorem EnSrc.make {elt : PySem.Expr} {a b : PySem.Str} {scope : Scope} {cl : List (PySem.Str × Addr)} {Fin : Shared → List Value → List (Addr × Obj) → Prop} {l : Addr} {vs : List Value} {n : Nat} {news : List (Addr × Obj)}
    (hh : A.handled = none) (F : Fr h₀ L s.heap m) (N : News h₀ L s.heap news) (hm : (l, ({ cls := .type "list", data := .seq vs.toArray n } : Obj)) ∈ news) (hsz : vs.length ≤ sizeLine)
    (h : ∀ g, EnRest prog w A h₀ L m env elt a b scope cl { s with heap := g } (l, { cls := .type "list", data := .seq vs.toArray n }) (Fin { s with heap := g }) 0 vs [] news) :
    wpAny (model prog w) A (call (.type "enumerate") [.ref l]) (EnSrc prog w A h₀ L m env elt a b scope cl Fin) E s := by
  have hax := N _ hm
  have hl : s.heap.IsList l vs.toArray := ⟨_, hax.1, rfl, n, rfl⟩
  have hlt : l < s.heap.objs.size := Heap.lt_size hax.1
  refine call_enumerate_list hl fun h' hE hI _ hk => ?_
  exact .mk _ _ l vs n news hh (F.keeps hk) (N.grown hk) hm hsz hE hI (Nat.succ_ne_self _) (ktu_ne 1 hlt) (Nat.ne_of_lt hlt) (ktu_ne 1 F.ns.lt) (Nat.ne_of_lt F.ns.lt) (ktu_new F (Nat.le_add_right _ _)) (ktu_new F (Nat.le_refl _)) (fun p hp => ⟨ktu_ne 1 (Heap.lt_size (N p hp).1), Nat.ne_of_lt (Heap.lt_size (N p hp).1)⟩) h
theorem en_block {elt iter : PySem.Expr} {a b : PySem.Str} {pa pb tp : Pos} {kk : Nat} {scope : Scope} {cl : List (PySem.Str × Addr)} {pos : Pos} {s₂ : Shared} {J I l : Addr} {vs : List Value} {n : Nat} {news : List (Addr × Obj)}
    {Fin : List Value → List (Addr × Obj) → Prop} {RR : Value → Addr → Result → Shared → Prop}
    (hh : A.handled = none) (hsz : vs.length ≤ sizeLine) (hJI : J ≠ I) (hlJ : l ≠ J) (hlI : l ≠ I) (hE0 : IsEnum s₂.heap J I 0 .none) (hI0 : s₂.heap.IsListIter I l 0)
    (hml : (l, ({ cls := .type "list", data := .seq vs.toArray n } : Obj)) ∈ news)
    (hcell : ∀ y ∈ scope.names, y.2 ≠ .cell) (hkind : scope.kind = .function) (hxa : scope.names.lookup a = some .local) (hxb : scope.names.lookup b = some .local) (hab : ¬ a = b)
    (F : Fr h₀ L s₂.heap m) (N : News h₀ L s₂.heap news) (hLJ : L ≠ J) (hLI : L ≠ I) (hJ₀ : h₀.get? J = none) (hI₀ : h₀.get? I = none) (off : ∀ p ∈ news, p.1 ≠ J ∧ p.1 ≠ I)
    (R : EnRest prog w A h₀ L m env elt a b scope cl s₂ (l, { cls := .type "list", data := .seq vs.toArray n }) Fin 0 vs [] news)
    (hRR : ∀ D C h tk m' ys news', Fr h₀ L h m → News h₀ L h ((D, lst ys) :: news') → (∀ p ∈ news', p.1 ≠ D) → h.Ns C m' → h₀.get? C = none → h₀.get? D = none → C ≠ L → D ≠ L → C ≠ D → (∀ p ∈ news', p.1 ≠ C) → Fin ys news' → RR (.ref D) C (.ok .next) { s₂ with heap := h, toks := tk }) :
    wpAny (model prog w) A (newList []) (fun acc s₃ => wpAny (model prog w) A (newFunctionEnv scope env.globals cl [] env.qual none .none (some env)) (fun cenv s₄ =>
      codeAny (model prog w) A (.compStart (.ListComp elt [⟨.Tuple [.Name a pa, .Name b pb] kk tp, iter, [], 0⟩] scope pos) 0 (.ref J) acc { cenv with scope := relabel scope env }) (RR acc cenv.locals) s₄) E s₃) E s₂ := by
  refine wpAny_newObj_type (wpAny_newFunctionEnv hcell (by intro y hy; simp at hy) (fun h₁ hns₁ hsb₁ => ?_) hkind)
  dsimp only at hns₁ hsb₁ ⊢
  generalize hH2 : s₂.heap.push { cls := .type "list", dict := none, data := .seq ([] : List Value).toArray } = H2 at hns₁ hsb₁ ⊢
  have hC : H2.objs.size = s₂.heap.objs.size + 1 := by rw [← hH2, Heap.size_push]
  have hDC : s₂.heap.objs.size ≠ H2.objs.size := by rw [hC]; exact Nat.ne_of_lt (Nat.lt_succ_self _)
  have below : ∀ b, b < s₂.heap.objs.size → b ≠ H2.objs.size ∧ b ≠ s₂.heap.objs.size := fun b hb => ⟨by rw [hC]; exact Nat.ne_of_lt (Nat.lt_succ_of_lt hb), Nat.ne_of_lt hb⟩
  have hJlt : J < s₂.heap.objs.size := Heap.lt_size hE0
  have hIlt : I < s₂.heap.objs.size := by obtain ⟨_, e, _⟩ := hI0; exact Heap.lt_size e
  have hlobj := (N _ hml).1
  have hllt : l < s₂.heap.objs.size := Heap.lt_size hlobj
  have old : ∀ b o, s₂.heap.get? b = some o → h₁.get? b = some o := fun b o e => hsb₁.extBut b o (below b (Heap.lt_size e)).1 (Heap.get?_push_of_some _ (hH2 ▸ Heap.get?_push_of_some _ e))
  have hacc : h₁.get? s₂.heap.objs.size = some (lst []) := hsb₁.extBut _ _ hDC (Heap.get?_push_of_some _ (hH2 ▸ Heap.get?_push_size _ rfl))
  have fresh : ∀ a, s₂.heap.objs.size ≤ a → s₂.heap.get? a = none := fun a ha => by
    cases e : s₂.heap.get? a with
    | none => rfl
    | some o' => exact absurd (Heap.lt_size e) (Nat.not_lt.mpr ha)
  have fresh₀ : ∀ a, s₂.heap.objs.size ≤ a → h₀.get? a = none := fun a ha => by
    cases e : h₀.get? a with
    | none => rfl
    | some o' => have := F.keep a o' e; rw [fresh a ha] at this; cases this
  have hD₀ : h₀.get? s₂.heap.objs.size = none := fresh₀ _ (Nat.le_refl _)
  have hC₀ : h₀.get? H2.objs.size = none := fresh₀ _ (by rw [hC]; exact Nat.le_succ _)
  have hLlt : L < s₂.heap.objs.size := F.ns.lt
  have hDL : s₂.heap.objs.size ≠ L := Ne.symm (below L hLlt).2
  have hCL : H2.objs.size ≠ L := Ne.symm (below L hLlt).1
  have hJC := (below J hJlt).1
  have hJD := (below J hJlt).2
  have hIC := (below I hIlt).1
  have hID := (below I hIlt).2
  have off₀ : Off4 J I H2.objs.size s₂.heap.objs.size news := fun p hp => ⟨(off p hp).1, (off p hp).2, (below _ (Heap.lt_size (N p hp).1)).1, (below _ (Heap.lt_size (N p hp).1)).2⟩
  have W := KTurns.ofWalksU (elts := [.Name a pa, .Name b pb]) (k := kk) (pos := tp) (WalksT.enumerate (prog := prog) (w := w) hh J I l hJI hlJ hlI vs.toArray).toU
  have hsz' : vs.toArray.size = vs.length := List.size_toArray
  rw [hsz'] at W
  have loop : ∀ s₃ : Shared, s₃ = { s₂ with heap := h₁, toks := s₂.toks + ([] : List (PySem.Str × Value)).length } →
      codeAny (model prog w) A (.compLoop (.ListComp elt [⟨.Tuple [.Name a pa, .Name b pb] kk tp, iter, [], 0⟩] scope pos) 0 (.ref J) (.ref s₂.heap.objs.size) (compEnvC scope cl H2.objs.size env))
        (RR (.ref s₂.heap.objs.size) H2.objs.size) s₃ := by
    rintro s₃ rfl
    refine kcp_loop
      (EnI prog w A h₀ L m env elt a b scope cl s₂ J I l vs n H2.objs.size s₂.heap.objs.size Fin) ?_ (vs.length + 1)
      (.mk 0 [] _ news (Nat.zero_le _) rfl ⟨_, old _ _ hE0⟩ (hI0.at fun o e => old _ o e) ⟨_, old _ _ hlobj, rfl, n, rfl⟩ (F.keeps old) hns₁ (fun p hp => ?_) off₀ hml R)
    · rintro _ _ @⟨h', tk, i, ys, m', news', hi, hyl, hst1, hst2, hst3, F', hn', N', off4, hml', R'⟩
      by_cases hlt : i < vs.length
      · refine W.item i _ _ _ hlt ⟨hst1, hst2, hst3⟩ fun v h₂ tk₂ hMd hk₂ => ?_
        refine W.go i v _ _ _ hMd fun h₃ hP hst₃ hk₃ => ?_
        obtain ⟨T, vals, rfl, ⟨t, x, hx, rfl⟩, hT⟩ := hP
        have up₃ : ∀ c o, c ≠ J → c ≠ I → h'.get? c = some o → h₃.get? c = some o := fun c o h1 h2 e => hk₃ c o (by simp [h1, h2]) (hk₂ c o (by simp [h1, h2]) e)
        refine kcp_assign (env := compEnvC scope cl H2.objs.size env) hh hT (lookup_relabel_local hxa) (lookup_relabel_local hxb) (by simp [compEnvC, relabel, hkind]) (hn'.at' fun o e => up₃ _ o (Ne.symm hJC) (Ne.symm hIC) e) fun h₄ tk₄ hn₄ hs₄ => ?_
        have up : ∀ c o, c ≠ J → c ≠ I → c ≠ H2.objs.size → h'.get? c = some o → h₄.get? c = some o := fun c o h1 h2 h3 e => hs₄ c o h3 (up₃ c o h1 h2 e)
        obtain ⟨⟨old', he₃⟩, hI₃, _⟩ := hst₃
        have hE₄ : IsEnum h₄ J I (i + 1 : Nat) old' := hs₄ J _ hJC he₃
        obtain ⟨oJ, heJ, hoJ⟩ : ∃ oJ : Obj, h₄.get? J = some oJ ∧ ∀ h : Heap, h.get? J = some oJ → ∃ old, IsEnum h J I (i + 1 : Nat) old := ⟨_, hE₄, fun _ e => ⟨_, e⟩⟩
        obtain ⟨oI, heI, hoI⟩ : ∃ oI : Obj, h₄.get? I = some oI ∧ ∀ h : Heap, h.get? I = some oI → h.IsListIter I l (i + 1) := by
          obtain ⟨o, e, r⟩ := hI₃
          exact ⟨o, hs₄ I _ hIC e, fun h e' => ⟨o, e', r⟩⟩
        obtain ⟨oC, heC, hoC⟩ := ns_obj hn₄
        have F₄ : Fr h₀ L h₄ m := ⟨F'.ns.at' fun o e => up _ o hLJ hLI (Ne.symm hCL) e, fun c o e => up c o (fun q => by rw [q, hJ₀] at e; cases e) (fun q => by rw [q, hI₀] at e; cases e) (fun q => by rw [q, hC₀] at e; cases e) (F'.keep c o e), F'.above⟩
        have hxv : vs[i]? = some x := by simpa using hx
        have hdrop : vs.drop i = x :: vs.drop (i + 1) := by
          rw [List.drop_eq_getElem_cons hlt]
          congr 1
          exact Option.some.inj ((List.getElem?_eq_getElem hlt).symm.trans hxv)
        rw [hdrop] at R'
        have N₄ : News h₀ L h₄ ((J, oJ) :: (I, oI) :: (H2.objs.size, oC) :: (s₂.heap.objs.size, lst ys) :: news') := fun q hq => by
          rcases List.mem_cons.mp hq with rfl | hq
          · exact ⟨heJ, Ne.symm hLJ, hJ₀⟩
          rcases List.mem_cons.mp hq with rfl | hq
          · exact ⟨heI, Ne.symm hLI, hI₀⟩
          rcases List.mem_cons.mp hq with rfl | hq
          · exact ⟨heC, hCL, hC₀⟩
          have z := N' q hq
          rcases List.mem_cons.mp hq with rfl | hq
          · exact ⟨up _ _ (Ne.symm hJD) (Ne.symm hID) hDC z.1, z.2⟩
          · exact ⟨up _ _ (off4 q hq).1 (off4 q hq).2.1 (off4 q hq).2.2.1 z.1, z.2⟩
        refine wpAny_mono (R' t J oJ I oI H2.objs.size oC s₂.heap.objs.size _ h₄ _ _ hoC (by simp [hab]) (by simp) F₄ N₄ off4) (fun y s₅ h₅ => ?_) fun _ _ e => e
        obtain @⟨h₅, tk₅, news₅, F₅, N₅, off5, hml₅, R₅⟩ := h₅
        have zJ := (N₅ (J, oJ) (.head _)).1
        have zI := (N₅ (I, oI) (.tail _ (.head _))).1
        have zC := (N₅ (H2.objs.size, oC) (.tail _ (.tail _ (.head _)))).1
        have zD := (N₅ (s₂.heap.objs.size, lst ys) (.tail _ (.tail _ (.tail _ (.head _))))).1
        have N₅' : News h₀ L h₅ news₅ := fun q hq => N₅ q (.tail _ (.tail _ (.tail _ (.tail _ hq))))
        refine append_at (hsz := by show ys.toArray.size ≤ sizeLine; rw [List.size_toArray, hyl]; exact Nat.le_trans hi hsz) zD fun h₆ hs₆ hD₆ => ?_
        refine ⟨vs.length + 1 - (i + 1), by omega, .mk (i + 1) (ys ++ [y]) _ news₅ hlt (by rw [List.length_append, List.length_singleton, hyl]) (hoJ h₆ (hs₆.extBut J oJ hJD zJ)) (hoI h₆ (hs₆.extBut I oI hID zI)) ⟨_, hs₆.extBut l _ (off5 _ hml₅).2.2.2 (N₅' _ hml₅).1, rfl, n, rfl⟩ (F₅.change hs₆ hDL hD₀) ((hoC.ns zC).sameBut hs₆ (Ne.symm hDC)) (fun q hq => ?_) off5 hml₅ R₅⟩
        rcases List.mem_cons.mp hq with rfl | hq
        · exact ⟨hD₆.trans (congrArg some (lst_snoc ys y)), hDL, hD₀⟩
        · exact ⟨hs₆.extBut _ _ (off5 q hq).2.2.2 (N₅' q hq).1, (N₅' q hq).2⟩
      · have hin : i = vs.length := Nat.le_antisymm hi (Nat.not_lt.mp hlt)
        subst hin
        rw [List.drop_length] at R'
        refine W.done _ _ _ ⟨hst1, hst2, hst3⟩ fun h₂ tk₂ hk₂ => ?_
        have up₂ : ∀ c o, c ≠ J → c ≠ I → h'.get? c = some o → h₂.get? c = some o := fun c o h1 h2 e => hk₂ c o (by simp [h1, h2]) e
        have F₂ : Fr h₀ L h₂ m := ⟨F'.ns.at' fun o e => up₂ _ o hLJ hLI e, fun c o e => up₂ c o (fun q => by rw [q, hJ₀] at e; cases e) (fun q => by rw [q, hI₀] at e; cases e) (F'.keep c o e), F'.above⟩
        exact hRR _ _ h₂ tk₂ _ ys news' F₂ (fun q hq => by
          have z := N' q hq
          rcases List.mem_cons.mp hq with rfl | hq
          · exact ⟨up₂ _ _ (Ne.symm hJD) (Ne.symm hID) z.1, z.2⟩
          · exact ⟨up₂ _ _ (off4 q hq).1 (off4 q hq).2.1 z.1, z.2⟩) (fun q hq => (off4 q hq).2.2.2) (hn'.at' fun o e => up₂ _ o (Ne.symm hJC) (Ne.symm hIC) e) hC₀ hD₀ hCL hDL (Ne.symm hDC) (fun p hp => (off4 p hp).2.2.1) R'
    · rcases List.mem_cons.mp hp with rfl | hp
      · exact ⟨hacc, hDL, hD₀⟩
      · exact ⟨old _ _ (N p hp).1, (N p hp).2⟩
  exact codeAny_compStart_list (loop _ rfl) (wpAny_pyIter_enum (old _ _ hE0) (loop _ rfl))
noncomputable def FinEn (h₀ : Heap) (L : Addr) (m : PySem.Str → Option Value) (s : Shared) (y : PySem.Str) (Q : Flow → Shared → Prop) (ys : List Value) (news : List (Addr × Obj)) : Prop :=
  ∀ D h tk, Fr h₀ L h (fun z => if z = y then some (.ref D) else m z) → News h₀ L h ((D, lst ys) :: news) → (∀ p ∈ news, p.1 ≠ D) → Q .next { s with heap := h, toks := tk }
theorem Assign_enum {elt iter : PySem.Expr} {a b y : PySem.Str} {pa pb tp py : Pos} {kk : Nat} {scope : Scope} {cl : List (PySem.Str × Addr)} {pos spos : Pos} {Q : Flow → Shared → Prop} (_F₀ : Fr h₀ L s.heap m) (hLe : env.locals = L)
    (hsw : swapsWith (.ListComp elt [⟨.Tuple [.Name a pa, .Name b pb] kk tp, iter, [], 0⟩] scope pos) (some (.Name y py)) spos.line env = pure true)
    (hclos : closureFor scope env = pure cl) (hcell : ∀ z ∈ scope.names, z.2 ≠ .cell) (hkind : scope.kind = .function)
    (hnames : ∀ z ∈ scope.names, z.2 = .local → scope.names.lookup z.1 = some .local) (hxa : scope.names.lookup a = some .local) (hxb : scope.names.lookup b = some .local) (hab : ¬ a = b)
    (hy : env.kindOf y = some .local) (hp : (env.scope.kind == .class || (env.scope.kind == .module && env.locals != env.globals)) = false)
    (h : wpAny (model prog w) A (eval iter env) (EnSrc prog w A h₀ L m env elt a b scope cl (fun s₂ => FinEn h₀ L m s₂ y Q)) E s)
    (hs : ∀ x, foldedSetIterable iter env x = pure x := by intro _; rfl) :
    wpAny (model prog w) A (exec (.Assign [.Name y py] (.ListComp elt [⟨.Tuple [.Name a pa, .Name b pb] kk tp, iter, [], 0⟩] scope pos) spos) env) Q E s := by
  subst hLe
  rw [exec_Assign_Name_used _ _ _ _ hsw]
  refine wpAny_bind (wpAny_standAt (wpAny_bind ?_))
  show wpAny _ A (do let _ ← comprehension (.ListComp elt [⟨.Tuple [.Name a pa, .Name b pb] kk tp, iter, [], 0⟩] scope pos) scope env _ (newList []) false (eval iter env) (some (assign (.Name y py) env))) _ _ s
  refine wpAny_bind (wpAny_mono (wpAny_comprehension_free (use := some (assign (.Name y py) env)) (Q := fun _ s' => Q .next s') rfl hs hclos hkind hnames
    (wpAny_mono h (fun xv s₁ h₁ => ?_) fun _ _ e => e)) (fun _ s' hq => wpAny_pure (wpAny_pure hq)) fun _ _ e => e)
  obtain ⟨J, I, l, vs, n, news, hh, F, N, hml, hsz, hE0, hI0, h1, h2, h3, h4, h5, h6, h7, off, R⟩ := h₁
  refine wpAny_pyIter_enum hE0 ?_
  refine en_block hh hsz h1 h2 h3 hE0 hI0 hml hcell hkind hxa hxb hab F N h4 h5 h6 h7 off (R s₁.heap) ?_
  intro D C h' tk m' ys news' F' N' o1 hn hC₀ hD₀ hCL hDL hCD offC fin
  show wpAny _ A (assign (.Name y py) env (.ref D)) _ _ _
  refine wpAny_assign_Name (wpAny_storeName_local hy F'.ns (fun h₂ hn₂ hs₂ => ?_) hp)
  have hL₀ : h₀.get? env.locals = none := Heap.get?_none_of_le F'.above
  have F₂ : Fr h₀ env.locals h₂ (fun z => if z = y then some (.ref D) else m z) := ⟨hn₂, fun b o e => hs₂.extBut b o (fun q => by rw [q, hL₀] at e; cases e) (F'.keep b o e), F'.above⟩
  refine ⟨m', hn.sameBut hs₂ hCL, fun h'' hs'' => fin D h'' _ (F₂.change hs'' hCL hC₀) (fun p hp => ?_) o1⟩
  have z : h₂.get? p.1 = some p.2 := hs₂.extBut _ _ (N' p hp).2.1 (N' p hp).1
  refine ⟨hs''.extBut _ _ ?_ z, (N' p hp).2⟩
  rcases List.mem_cons.mp hp with rfl | hp
  · exact Ne.symm hCD
  · exact offC p hp
end
end Mine
end
section
namespace Mine
theorem kw_EX_0 : True := by
  k_with_none
  w_top off
  k_with "exec Assign" => walk_at "FOLD"
  k_with "exec Return some" => walk_at "FOLD"
  k_with "exec If" => walk_at "FOLD"
  k_with "exec AugAssign" => walk_at "FOLD"
  k_with "exec Expr" => walk_at "FOLD"
  k_with "eval Tuple" => walk_at "FOLD"
  k_with "eval List" => walk_at "FOLD"
  k_with "eval BinOp" => walk_at "FOLD"
  k_with "eval Call" => walk_at "FOLD"
  k_with "eval Subscript" => walk_at "FOLD"
  k_with "eval IfExp" => walk_at "FOLD"
  k_with "isTrue BoolOp" => walk_at "FOLD"
  k_with "isTrue Compare" => walk_at "FOLD"
  k_with "eval Call Attribute" => walk_at "FOLD"
  k_with "FOLD" => ((fail_if_success (fail_if_success k_fold)); refine (let qk := _; let ek := _; (?_ : wpAny _ _ _ qk ek _)))
  k_with "execs cons" => (refine wp_tk s ?_; intro _)
  k_with "ENTER" => ((case k6 => k_is); (case k7 => k_is); (case k8 => ktr_room); (case k9 => exact BindsTo.of_eq rfl); (case c5 => decide); (case kB => exact locs rfl); (case c2 => exact rfl); (case c3 => exact rfl); (case c4 => exact rfl); k_whole)
  k_with "LpPost" => (dsimp only [LpPost])
  k_with "USE" => ((case k1 => k_asm); (case k2 => k_asm); (case k3 => k_asm); (case k4 => k_asm); (case k5 => k_asm); (case kK => first | exact rfl | assumption); (case kd => first | exact dp_lt (by with_reducible assumption) (by decide) | ktr_room); (case ku => first | exact un_lt (by with_reducible assumption) (by decide) | ktr_units))
  k_with "SIDE" => first | assumption | omega | (split <;> omega)
  k_with "call builtin:str.find" => (k_here; refine find_r (by decide +kernel) (by omega) ?_; intro _)
  k_with "SUB" => ((try simp only [List.cons_append, List.nil_append]); repeat (first | with_reducible exact sub_refl | with_reducible exact sub_nil | ((with_reducible refine sub_cons ?hm ?_); (case hm => k_mem)) | with_reducible refine sub_tail ?_ | with_reducible refine sub_apR ?_))
  k_with "WhlIf" => (refine whlIf_dec ?_ ?_ <;> intro _ <;> try (exfalso; omega))
  k_with "call builtin:abs" => (k_here; refine abs_z ?_; intro z9 _ _ _ z91 z92)
  k_with "binaryOp Mod int int" => (k_here; refine mod_p (by omega) ?_)
  k_with "binaryOp FloorDiv int int" => (k_here; refine div_p (by omega) (by omega) ?_)
  trivial
@[reducible] noncomputable def excO (t : Addr) (d : Option Addr) : Obj := { cls := .ref 41, dict := d, data := .fields #[.ref t, .none, .none, .none, .bool false, .none] }
noncomputable def berrM (c l : Value) : PySem.Str → Option Value := fun z => if z = Str.ofString "told" then some l else if z = Str.ofString "code" then some c else none
theorem lk_code : typeLookup (.type "Exception") "code" = pure none := by rw [typeLookup_type, builtinLookup_eq_fast]; kernel_rfl
theorem lk_told : typeLookup (.type "Exception") "told" = pure none := by rw [typeLookup_type, builtinLookup_eq_fast]; kernel_rfl
theorem init_walk (w : World) (news : Ledger) (x t : Addr) (y : PySem.Str) (t1 t2 : Tok) (k : Int)
  (mean : ExcName → Option Value) (mg mb : PySem.Str → Option Value) (dp un : Nat) (gd : Option (List Code)) (cn : PySem.Str) (cs : Scope) (a : Addr) (ccd : Value) (cl : List (PySem.Str × Addr)) (outer : List Env) (A₀ : Around) (base h₀ : Heap) (L : Addr) (m : PySem.Str → Option Value) (s : Shared) (R : Result → Shared → Prop)
  (B : Below A₀ base outer h₀) (F : Fr h₀ L s.heap m) (X : (MineH.K w.params).In h₀) (N : News h₀ L s.heap ((x, excO t none) :: (t, tupO [.str y t1, .int k t2]) :: news)) (T : Top topProg topLs mean mg mb h₀) (hk : cs.kind = .function)
  (hd : dp + 5 < recursionLimit) (hu : un + 8 * 5 < cLine) (lx : t < x) (ln : ∀ p ∈ news, p.1 < t)
  (ret : ∀ t' D oD h' tk', Fr h₀ L h' m → News h₀ L h' ((x, excO t' (some D)) :: (D, oD) :: (t', tupX [.str y t1]) :: news) → DictO oD (berrM (.str y t1) (.int k t2)) → @LT.lt Nat _ x t' → @LT.lt Nat _ t' D → R (.ok (.ret (.ref x))) { s with heap := h', toks := tk' }) :
  codeAny (model PySem.Challenge.rw_pf0007_01.row.prog w) ((ktrTop dp un gd cn cs L a ccd cl outer).under (.builtin "type.__call__" ⟨.ref 41 :: [.str y t1, .int k t2], []⟩)) (.call (.ref 38) ⟨.ref x :: [.str y t1, .int k t2], []⟩) (InitBack x R) s := by
  k_dflt (refine' ks_code_super (binds := [(Str.ofString "self", .ref x), (Str.ofString "code", .str y t1), (Str.ofString "told", .int k t2)]) B F X N T rfl rfl hk ?k6 ?k7 ?k8 ?k9 ?kB ?_ ?c1 ?c2 ?c3 ?c4)
  case k6 => k_is
  case k7 => k_is
  case k8 => ktr_room
  case k9 => exact binds_K (X.keeps F.keep) rfl (by k_is) rfl rfl rfl
  case kB => exact locs rfl
  case c1 => decide
  case c2 => exact rfl
  case c3 => exact rfl
  case c4 => exact rfl
  intro g' L' h' FG' F' N' B' X' T' l1
  (try k_lt l1)
  (try dsimp only)
  (try k_fold)
  ks_step "execs cons"; refine ks_wpAt_execs_cons ?_
  ks_step "exec Expr"; refine ks_wpAt_Expr_any ?_
  ks_step "eval Call"; refine ks_wpAt_MethodCall ?_
  ks_step "attributeBase Call"
  k_dflt (refine ks_node (by k_asm) (by k_asm) (by k_asm) (by k_asm) (by k_is) (by rfl) (by rfl) (odx := none) (I := ⟨(N' _ (.head _)).1, rfl, rfl, trivial⟩) (by k_is) (by rfl) (by first | rfl | decide +kernel) (by k_is) (by k_is) (by k_is) (by k_is) (by decide) (by rfl) (by rfl) (by rfl) (by rfl) (by decide +kernel) (by first | boot_by_name | rfl | kernel_rfl) ?_)
  intro so h1 F1 N1 l2
  refine sup_K F1 X' N1 (.head _) (ox := excO t none) ⟨(N1 _ (.tail _ (.head _))).1, rfl, rfl, trivial⟩ (by k_dflt k_is) (by k_dflt ks_is) (by k_dflt k_is) (by decide) ?_
  intro q h2 F2 N2 l3
  (try dsimp only)
  refine callWith_mw (x := x) ?_
  k_steps
  · exact (N2 _ (.head _)).1
  have tx : @LT.lt Nat _ t x := lx
  have n1 : ∀ p ∈ (q, mwO x) :: (so, ks_superObj 41 x 41) :: (t, tupO [.str y t1, .int k t2]) :: news, p.1 ≠ x := by
    have h1 := l3 _ (.tail _ (.head _))
    have h2 := l2 _ (.head _)
    refine List.forall_mem_cons.mpr ⟨Nat.ne_of_gt h1, List.forall_mem_cons.mpr ⟨Nat.ne_of_gt h2, List.forall_mem_cons.mpr ⟨Nat.ne_of_lt tx, fun p hp => Nat.ne_of_lt (Nat.lt_trans (ln p hp) tx)⟩⟩⟩
  refine mw_K F2 X' (cb_drop N2 (sub_cons (.tail _ (.tail _ (.head _))) (sub_cons (.head _) (sub_cons (.tail _ (.head _)) (sub_tail (sub_tail (sub_tail sub_refl))))))) (.head _) n1 (by k_dflt k_is) ?_
  intro t' h3 F3 N3 l4
  dsimp only
  refine wpAt_of_wpAny ?_
  k_steps
  have xt : @LT.lt Nat _ x t' := l4 _ (.head _)
  have n2 : ∀ p ∈ (t', tupX [.str y t1]) :: (q, mwO x) :: (so, ks_superObj 41 x 41) :: (t, tupO [.str y t1, .int k t2]) :: news, p.1 ≠ x := List.forall_mem_cons.mpr ⟨Nat.ne_of_gt xt, n1⟩
  refine set1_K F3 X' (cb_drop N3 (sub_cons (.tail _ (.head _)) (sub_cons (.head _) (sub_tail (sub_tail sub_refl))))) (by k_dflt k_is) (by kernel_rfl) (by k_dflt k_is) (by k_dflt k_is) lk_code n2 ?_
  intro D oD h4 tk4 F4 N4 d4 l5
  have xD : @LT.lt Nat _ x D := l5 _ (.head _)
  have n3 : ∀ p ∈ (t', tupX [.str y t1]) :: (q, mwO x) :: (so, ks_superObj 41 x 41) :: (t, tupO [.str y t1, .int k t2]) :: news, p.1 ≠ D := fun p hp => Nat.ne_of_lt (l5 p (.tail _ hp))
  dsimp only
  k_steps
  refine set2_K F4 X' (cb_drop N4 (sub_cons (.tail _ (.head _)) (sub_cons (.head _) (sub_tail (sub_tail sub_refl))))) (by k_dflt k_is) (by kernel_rfl) (by k_dflt k_is) (by k_dflt k_is) lk_told n2 n3 (Nat.ne_of_gt xD) d4 (Within.cons _ _ Within.nil) (by rw [sizeLine_eq]; decide) ?_
  intro oD' h5 tk5 F5 N5 d5
  dsimp only
  k_steps
  exact ret _ _ _ _ _ (by k_asm) (cb_drop (by k_asm) (sub_cons (.head _) (sub_cons (.tail _ (.head _)) (sub_cons (.tail _ (.tail _ (.head _))) (sub_tail (sub_tail (sub_tail (sub_tail (sub_tail (sub_tail sub_refl)))))))))) d5 xt (l5 _ (.tail _ (.head _)))
end Mine
end
section
namespace Mine
theorem kw_EY_0 : True := by
  k_with_none
  w_top off
  k_with "exec Assign" => walk_at "FOLD"
  k_with "exec Return some" => walk_at "FOLD"
  k_with "exec If" => walk_at "FOLD"
  k_with "exec AugAssign" => walk_at "FOLD"
  k_with "exec Expr" => walk_at "FOLD"
  k_with "eval Tuple" => walk_at "FOLD"
  k_with "eval List" => walk_at "FOLD"
  k_with "eval BinOp" => walk_at "FOLD"
  k_with "eval Call" => walk_at "FOLD"
  k_with "eval Subscript" => walk_at "FOLD"
  k_with "eval IfExp" => walk_at "FOLD"
  k_with "isTrue BoolOp" => walk_at "FOLD"
  k_with "isTrue Compare" => walk_at "FOLD"
  k_with "eval Call Attribute" => walk_at "FOLD"
  k_with "FOLD" => ((fail_if_success (fail_if_success k_fold)); refine (let qk := _; let ek := _; (?_ : wpAny _ _ _ qk ek _)))
  k_with "execs cons" => (refine wp_tk s ?_; intro _)
  k_with "ENTER" => ((case k6 => k_is); (case k7 => k_is); (case k8 => ktr_room); (case k9 => exact BindsTo.of_eq rfl); (case c5 => decide); (case kB => exact locs rfl); (case c2 => exact rfl); (case c3 => exact rfl); (case c4 => exact rfl); k_whole)
  k_with "LpPost" => (dsimp only [LpPost])
  k_with "USE" => ((case k1 => k_asm); (case k2 => k_asm); (case k3 => k_asm); (case k4 => k_asm); (case k5 => k_asm); (case kK => first | exact rfl | assumption); (case kd => first | exact dp_lt (by with_reducible assumption) (by decide) | ktr_room); (case ku => first | exact un_lt (by with_reducible assumption) (by decide) | ktr_units))
  k_with "SIDE" => first | assumption | omega | (split <;> omega)
  k_with "call builtin:str.find" => (k_here; refine find_r (by decide +kernel) (by omega) ?_; intro _)
  k_with "SUB" => ((try simp only [List.cons_append, List.nil_append]); repeat (first | with_reducible exact sub_refl | with_reducible exact sub_nil | ((with_reducible refine sub_cons ?hm ?_); (case hm => k_mem)) | with_reducible refine sub_tail ?_ | with_reducible refine sub_apR ?_))
  k_with "WhlIf" => (refine whlIf_dec ?_ ?_ <;> intro _ <;> try (exfalso; omega))
  k_with "call builtin:abs" => (k_here; refine abs_z ?_; intro z9 _ _ _ z91 z92)
  k_with "binaryOp Mod int int" => (k_here; refine mod_p (by omega) ?_)
  k_with "binaryOp FloorDiv int int" => (k_here; refine div_p (by omega) (by omega) ?_)
  trivial
theorem clsK (P : Params) : ∃ nm q bs sn sub ab col dd k0 k1 k2 k3 k5, (MineH.K P).lookup 41 = some (excClassObj nm q 41 40 bs excB true sn sub ab col dd k0 k1 k2 k3 k5 "Exception.__new__") := by
  exact ⟨_, _, _, _, _, _, _, _, _, _, _, _, _, (by k_dflt k_is)⟩
theorem berr_call (w : World) (news : Ledger) (y : PySem.Str) (t1 t2 : Tok) (k : Int)
  {mean : ExcName → Option Value} {mg mb : PySem.Str → Option Value} {dp un : Nat} {gd : Option (List Code)} {cn : PySem.Str} {cs : Scope} {a : Addr} {ccd : Value} {cl : List (PySem.Str × Addr)} {outer : List Env} {A₀ : Around} {base h₀ : Heap} {L : Addr} {m : PySem.Str → Option Value} {s : Shared} {Q E : Value → Shared → Prop}
  (B : Below A₀ base outer h₀) (F : Fr h₀ L s.heap m) (X : (MineH.K w.params).In h₀) (N : News h₀ L s.heap news) (T : Top topProg topLs mean mg mb h₀) (hk : cs.kind = .function)
  (hdp : dp + 5 < recursionLimit) (hu : un + 8 * 5 < cLine)
  (ret : ∀ x t' D oD h' tk', Fr h₀ L h' m → News h₀ L h' ((x, excO t' (some D)) :: (D, oD) :: (t', tupX [.str y t1]) :: news) → DictO oD (berrM (.str y t1) (.int k t2)) → @LT.lt Nat _ x t' → @LT.lt Nat _ t' D → (∀ p ∈ news, p.1 < x) → Q (.ref x) { s with heap := h', toks := tk' }) :
  wpAny (model PySem.Challenge.rw_pf0007_01.row.prog w) (ktrTop dp un gd cn cs L a ccd cl outer) (call (.ref 41) [.str y t1, .int k t2]) Q E s := by
  have X1 := X.keeps F.keep
  obtain ⟨nm, q, bs, sn, sub, ab, col, dd, k0, k1, k2, k3, k5, hC⟩ := clsK w.params
  have i1 : specialIn (MineH.K w.params) (.ref 41) "__call__" = some (some (.builtin "type.__call__")) := by k_dflt k_is
  have i2 : instIn (MineH.K w.params) (.ref 41) (.type "type") = some true := by k_dflt k_is
  have i3 : findIn (MineH.K w.params) (.ref 41) "__init__" = some (some (.ref 38)) := by k_dflt k_is
  have i4 : typeIn (MineH.K w.params) (.ref 38) = some (.type "function") := by k_dflt k_is
  have i5 : mroIn (MineH.K w.params) 41 (.ref 41) = some true := by k_dflt k_is
  obtain ⟨hh, g, d, tk, os⟩ := s
  refine wpAny_call (mk_exc PySem.F.excBase_Exception (X1 _ _ hC) (looks_specialIn X1 i1) (looks_instIn X1 i2) (looks_findIn X1 i3) (fun self => bind_fn X1 self i4) (looks_mroIn X1 i5) (by rw [sizeLine_eq]; exact Nat.le_of_ble_eq_true rfl) ?_)
  have N1 := (N.push F (tupX [.str y t1, .int k t2])).push (F.push _) (excN 41 hh.objs.size)
  rw [Heap.size_push] at N1
  refine init_walk w news (hh.objs.size + 1) hh.objs.size y t1 t2 k mean mg mb dp un gd cn cs a ccd cl outer A₀ base h₀ L m _ _ B ((F.push _).push _) X N1 T hk hdp hu (Nat.lt_succ_self _) (lt_new N) ?_
  intro t' D oD h' tk' F' N' d' l1 l2
  exact ret _ _ _ _ _ _ F' N' d' l1 l2 (fun p hp => Nat.lt_succ_of_lt (lt_new N p hp))
theorem raise_made {prog : Program} {w : World} {A : Around} {E : Value → Shared → Prop} {s : Shared} {env : Env} {nm q : PySem.Str} {C N : Addr} {bs bm : List Value} {hdct : Bool} {sn : List PySem.Str} {sub : List Value} {ab : Bool} {col : Option Bool} {dd : Option Addr} {k0 k1 k2 k3 k5 : Option Value} {newId : String} {x : Sem Value} {Q : Flow → Shared → Prop} (hbase : bm.contains (.type "BaseException") = true) (hh : A.handled = none)
    (h : wpAny (model prog w) A x (fun v s₁ => ∃ e t D, v = .ref e ∧ s₁.heap.get? C = some (excClassObj nm q C N bs bm hdct sn sub ab col dd k0 k1 k2 k3 k5 newId) ∧
      s₁.heap.get? e = some { cls := .ref C, dict := some D, data := .fields #[.ref t, .none, .none, .none, .bool false, .none] } ∧ E (.ref e) s₁) E s) :
    wpAny (model prog w) A (raiseStmt env (some x) none) Q E s := by
  have hcB : (Value.ref C :: bm).contains (.type "BaseException") = true := by rw [List.contains_cons, hbase, Bool.or_true]
  unfold raiseStmt
  refine wpAny_bind (wpAny_mono h (fun v s₁ h₁ => ?_) fun _ _ x => x)
  obtain ⟨e, t, D, rfl, hC, he, hE⟩ := h₁
  obtain ⟨hp, g, d, tk, os⟩ := s₁
  repeat (first | with_reducible refine wpAny_loadPart_at he ?_ | with_reducible refine wpAny_loadPart_at hC ?_ | (with_reducible refine wpAny_isSubtype_exc hC ?_; rw [hcB]) | wp_step)
  exact wpAny_raiseNew_none hh hE
end Mine
end
section
namespace Mine
/-- the table of a def's inner codes: empty, or with its one lambda's code -/
inductive TabSt
  | none
  | made (c' : Addr) (oc : Obj)
noncomputable def TabOk (qual : PySem.Str) : TabSt → Prop
  | .none => True
  | .made _ oc => ∃ vs t, oc.data = .fields vs ∧ (vs : Array Value)[1]? = some (.str qual t)
noncomputable def tabL (P : Addr) (pos : Pos) : TabSt → Ledger
  | .none => [(P, tabObj #[])]
  | .made c' oc => [(P, tabObj #[rawInt pos.line, rawInt pos.col, .ref c']), (c', oc)]
theorem tab_mem (P : Addr) (pos : Pos) (ts : TabSt) : ∃ ps, (P, tabObj ps) ∈ tabL P pos ts := by
  cases ts <;> exact ⟨_, .head _⟩
section
variable {M : Model} {A : Around} {E : Value → Shared → Prop} {s : Shared} {h₀ : Heap} {L a c P : Addr} {m mg mb : PySem.Str → Option Value} {cn : PySem.Str} {cs : Scope} {cl : List (PySem.Str × Addr)} {news : Ledger}
  {p : Program} {loose : List PySem.Str} {mean : ExcName → Option Value} {params : Arguments} {body : PySem.Expr} {scope : Scope} {pos : Pos} {clos : List (PySem.Str × Addr)} {ts : TabSt}
theorem lam_make {Q : Value → Shared → Prop} (F : Fr h₀ L s.heap m) (N : News h₀ L s.heap (tabL P pos ts ++ news)) (T : Top p loose mean mg mb h₀) (C : CodeHd h₀ c P) (hT : TabOk ((envX cn cs L a (.ref c) cl).qual ++ "<lambda>") ts) (hP : ∀ p ∈ news, p.1 ≠ P)
    (hdef : defaultsOf params (envX cn cs L a (.ref c) cl) = ([], [])) (hcl : closureFor scope (envX cn cs L a (.ref c) cl) = pure clos)
    (h : ∀ f c' oc pm ctv h' tk, Fr h₀ L h' m → News h₀ L h' ((f, kla_obj "<lambda>" ((envX cn cs L a (.ref c) cl).qual ++ "<lambda>") params body scope clos pm c' ctv) :: (tabL P pos (.made c' oc) ++ news)) → TabOk ((envX cn cs L a (.ref c) cl).qual ++ "<lambda>") (.made c' oc) →
      (∀ q ∈ tabL P pos (.made c' oc) ++ news, q.1 < f) → (ts = .made c' oc ∨ ∀ q ∈ tabL P pos ts ++ news, q.1 < c') → Q (.ref f) { s with heap := h', toks := tk }) :
    wpAny M A (eval (.Lambda params body scope pos) (envX cn cs L a (.ref c) cl)) Q E s := by
  refine kla_eval hdef ?_
  cases ts with
  | none =>
    refine kla_nest F N T C rfl (.head hP) trivial rfl hcl fun f c' oc vs t ctv h' tk F' N' hd hv l1 l2 => ?_
    have lP : P < c' := l1 _ (.head _)
    refine h f c' oc _ ctv h' tk F' (cb_drop N' (sub_cons (.head _) (sub_cons (.tail _ (.tail _ (.head _))) (sub_cons (.tail _ (.head _)) (sub_tail (sub_tail (sub_tail sub_refl))))))) ⟨vs, t, hd, hv⟩ (fun q hq => ?_) (.inr l1)
    rcases List.mem_cons.mp hq with rfl | hq
    · exact Nat.lt_trans lP l2
    · rcases List.mem_cons.mp hq with rfl | hq
      · exact l2
      · exact Nat.lt_trans (l1 q (.tail _ hq)) l2
  | made c' oc =>
    refine kla_hit (c' := c') F N T C rfl (.head _) (by simp [TriplesOk, rawInt]) (by simp [codeAmong, rawInt]) hcl fun f ctv h' tk F' N' l1 => ?_
    exact h f c' oc _ ctv h' tk F' N' hT l1 (.inl rfl)
end
end Mine
end
section
namespace Mine
theorem kw_W13_0 : True := by
  k_with_none
  w_top off
  k_with "exec Assign" => walk_at "FOLD"
  k_with "exec Return some" => walk_at "FOLD"
  k_with "exec If" => walk_at "FOLD"
  k_with "exec AugAssign" => walk_at "FOLD"
  k_with "exec Expr" => walk_at "FOLD"
  k_with "eval Tuple" => walk_at "FOLD"
  k_with "eval List" => walk_at "FOLD"
  k_with "eval BinOp" => walk_at "FOLD"
  k_with "eval Call" => walk_at "FOLD"
  k_with "eval Subscript" => walk_at "FOLD"
  k_with "eval IfExp" => walk_at "FOLD"
  k_with "isTrue BoolOp" => walk_at "FOLD"
  k_with "isTrue Compare" => walk_at "FOLD"
  k_with "eval Call Attribute" => walk_at "FOLD"
  k_with "FOLD" => ((fail_if_success (fail_if_success k_fold)); refine (let qk := _; let ek := _; (?_ : wpAny _ _ _ qk ek _)))
  k_with "execs cons" => (refine wp_tk s ?_; intro _)
  k_with "ENTER" => ((case k6 => k_is); (case k7 => k_is); (case k8 => ktr_room); (case k9 => exact BindsTo.of_eq rfl); (case c5 => decide); (case kB => exact locs rfl); (case c2 => exact rfl); (case c3 => exact rfl); (case c4 => exact rfl); k_whole)
  k_with "LpPost" => (dsimp only [LpPost])
  k_with "USE" => ((case k1 => k_asm); (case k2 => k_asm); (case k3 => k_asm); (case k4 => k_asm); (case k5 => k_asm); (case kK => first | exact rfl | assumption); (case kd => first | exact dp_lt (by with_reducible assumption) (by decide) | ktr_room); (case ku => first | exact un_lt (by with_reducible assumption) (by decide) | ktr_units))
  k_with "SIDE" => first | assumption | omega | (split <;> omega)
  k_with "call builtin:str.find" => (k_here; refine find_r (by decide +kernel) (by omega) ?_; intro _)
  k_with "SUB" => ((try simp only [List.cons_append, List.nil_append]); repeat (first | with_reducible exact sub_refl | with_reducible exact sub_nil | ((with_reducible refine sub_cons ?hm ?_); (case hm => k_mem)) | with_reducible refine sub_tail ?_ | with_reducible refine sub_apR ?_))
  k_with "WhlIf" => (refine whlIf_dec ?_ ?_ <;> intro _ <;> try (exfalso; omega))
  k_with "call builtin:abs" => (k_here; refine abs_z ?_; intro z9 _ _ _ z91 z92)
  k_with "binaryOp Mod int int" => (k_here; refine mod_p (by omega) ?_)
  k_with "binaryOp FloorDiv int int" => (k_here; refine div_p (by omega) (by omega) ?_)
  trivial
noncomputable def WLook (es : List DictEntry) (name : PySem.Str) (v : Value) : Prop := getL name es = some (some v)
/-- the dict of a World -/
structure WE (es : List DictEntry) (il ol dl : Addr) (row : PySem.Str) (rt : Tok) (spot : Int) (st : Tok) : Prop where
  len : es.length ≤ 30
  inputs : getL (Str.ofString "inputs") es = some (some (.ref il))
  out : getL (Str.ofString "out") es = some (some (.ref ol))
  row : getL (Str.ofString "row") es = some (some (.str row rt))
  data : getL (Str.ofString "data") es = some (some (.ref dl))
  spot : getL (Str.ofString "spot") es = some (some (.int spot st))
noncomputable def fv (y : PySem.Str) (es : List DictEntry) : Option Value := (es.find? (·.key.isStr y)).map (·.val)
theorem fv_cons (y : PySem.Str) (e : DictEntry) (r : List DictEntry) : fv y (e :: r) = if e.key.isStr y = true then some e.val else fv y r := by
  unfold fv
  rw [List.find?_cons]
  cases e.key.isStr y <;> rfl
theorem getL_iff {y : PySem.Str} {z : Value} {es : List DictEntry} : getL y es = some (some z) ↔ fv y es = some z := by
  unfold getL fv
  cases List.find? (fun x => x.key.isStr y) es with
  | some e => simp
  | none => simp only [Option.map_none]; split <;> simp
theorem isStr_two {k : Value} {a b : PySem.Str} (h1 : k.isStr a = true) (h2 : k.isStr b = true) : b = a := by
  cases k with
  | str x t =>
    have q1 : x = a := by simpa [Value.isStr] using h1
    have q2 : x = b := by simpa [Value.isStr] using h2
    exact q2.symm.trans q1
  | _ => cases h1
theorem putL_fv {name : PySem.Str} {hsh : Int} {key v : Value} : ∀ {es : List DictEntry} {u : Value}, fv name es = some u → (putL name hsh key v es).length = es.length ∧ fv name (putL name hsh key v es) = some v ∧ ∀ y, (y == name) = false → fv y (putL name hsh key v es) = fv y es
  | [], u, h => by cases h
  | e :: r, u, h => by
    unfold putL
    by_cases hk : e.key.isStr name = true
    · rw [if_pos hk]
      refine ⟨rfl, ?_, fun y hy => ?_⟩
      · rw [fv_cons]; exact if_pos hk
      · have hy' : ¬ e.key.isStr y = true := fun hq => by rw [isStr_two hk hq, beq_self_eq_true] at hy; cases hy
        rw [fv_cons, fv_cons, if_neg hy', if_neg hy']
    · rw [if_neg hk]
      rw [fv_cons, if_neg hk] at h
      obtain ⟨i1, i2, i3⟩ := putL_fv (hsh := hsh) (key := key) (v := v) h
      refine ⟨by rw [List.length_cons, List.length_cons, i1], ?_, fun y hy => ?_⟩
      · rw [fv_cons, if_neg hk]; exact i2
      · rw [fv_cons, fv_cons, i3 y hy]
theorem putL_found {name : PySem.Str} {hsh : Int} {key v u : Value} {es : List DictEntry} (h : getL name es = some (some u)) : (putL name hsh key v es).length = es.length ∧ getL name (putL name hsh key v es) = some (some v) ∧ ∀ y z, (y == name) = false → getL y es = some (some z) → getL y (putL name hsh key v es) = some (some z) := by
  obtain ⟨p1, p2, p3⟩ := putL_fv (hsh := hsh) (key := key) (v := v) (getL_iff.mp h)
  exact ⟨p1, getL_iff.mpr p2, fun y z hy hz => getL_iff.mpr ((p3 y hy).trans (getL_iff.mp hz))⟩
section
variable {es : List DictEntry} {il ol dl : Addr} {row : PySem.Str} {rt : Tok} {spot : Int} {st : Tok} {hsh : Int} {key : Value}
theorem WE.setRow {r : PySem.Str} {t : Tok} (H : WE es il ol dl row rt spot st) : WE (putL (Str.ofString "row") hsh key (.str r t) es) il ol dl r t spot st := by
  obtain ⟨p1, p2, p3⟩ := putL_found (hsh := hsh) (key := key) (v := .str r t) H.row
  exact ⟨by rw [p1]; exact H.len, p3 _ _ (by decide +kernel) H.inputs, p3 _ _ (by decide +kernel) H.out, p2, p3 _ _ (by decide +kernel) H.data, p3 _ _ (by decide +kernel) H.spot⟩
theorem WE.setSpot {i : Int} {t : Tok} (H : WE es il ol dl row rt spot st) : WE (putL (Str.ofString "spot") hsh key (.int i t) es) il ol dl row rt i t := by
  obtain ⟨p1, p2, p3⟩ := putL_found (hsh := hsh) (key := key) (v := .int i t) H.spot
  exact ⟨by rw [p1]; exact H.len, p3 _ _ (by decide +kernel) H.inputs, p3 _ _ (by decide +kernel) H.out, p3 _ _ (by decide +kernel) H.row, p3 _ _ (by decide +kernel) H.data, p2⟩
theorem WE.setInputs {a : Addr} (H : WE es il ol dl row rt spot st) : WE (putL (Str.ofString "inputs") hsh key (.ref a) es) a ol dl row rt spot st := by
  obtain ⟨p1, p2, p3⟩ := putL_found (hsh := hsh) (key := key) (v := .ref a) H.inputs
  exact ⟨by rw [p1]; exact H.len, p2, p3 _ _ (by decide +kernel) H.out, p3 _ _ (by decide +kernel) H.row, p3 _ _ (by decide +kernel) H.data, p3 _ _ (by decide +kernel) H.spot⟩
theorem WE.setData {a : Addr} (H : WE es il ol dl row rt spot st) : WE (putL (Str.ofString "data") hsh key (.ref a) es) il ol a row rt spot st := by
  obtain ⟨p1, p2, p3⟩ := putL_found (hsh := hsh) (key := key) (v := .ref a) H.data
  exact ⟨by rw [p1]; exact H.len, p3 _ _ (by decide +kernel) H.inputs, p3 _ _ (by decide +kernel) H.out, p3 _ _ (by decide +kernel) H.row, p2, p3 _ _ (by decide +kernel) H.spot⟩
end
theorem we_some {name : PySem.Str} {es : List DictEntry} {v : Value} (h : getL name es = some (some v)) : (getL name es).isSome = true := by rw [h]; rfl
theorem lt_two {a b : Addr} (h : a < b) : @LT.lt Nat _ a b := h
theorem isStr_self (name : PySem.Str) (t : Tok) : (Value.str name t).isStr name = true := by simp [Value.isStr]
theorem putL_fvn {name : PySem.Str} {hsh : Int} {key v : Value} (hk : key.isStr name = true) : ∀ (es : List DictEntry), (putL name hsh key v es).length ≤ es.length + 1 ∧ fv name (putL name hsh key v es) = some v ∧ ∀ y, (y == name) = false → fv y (putL name hsh key v es) = fv y es
  | [] => by
    refine ⟨Nat.le_refl _, ?_, fun y hy => ?_⟩
    · rw [putL, fv_cons]; exact if_pos hk
    · have hy' : ¬ key.isStr y = true := fun hq => by rw [isStr_two hk hq, beq_self_eq_true] at hy; cases hy
      rw [putL, fv_cons]; exact if_neg hy'
  | e :: r => by
    by_cases he : e.key.isStr name = true
    · have h1 : fv name (e :: r) = some e.val := by rw [fv_cons]; exact if_pos he
      obtain ⟨p1, p2, p3⟩ := putL_fv (hsh := hsh) (key := key) (v := v) h1
      exact ⟨by rw [p1]; exact Nat.le_succ _, p2, p3⟩
    · obtain ⟨i1, i2, i3⟩ := putL_fvn (hsh := hsh) (v := v) hk r
      unfold putL
      rw [if_neg he]
      refine ⟨by rw [List.length_cons, List.length_cons]; exact Nat.succ_le_succ i1, ?_, fun y hy => ?_⟩
      · rw [fv_cons, if_neg he]; exact i2
      · rw [fv_cons, fv_cons, i3 y hy]
theorem putL_nr {name : PySem.Str} {hsh : Int} {key v : Value} (hk : (DictEntry.mk hsh key v).refKey = false) : ∀ (es : List DictEntry), es.any (·.refKey) = false → (putL name hsh key v es).any (·.refKey) = false
  | [], _ => by rw [putL, List.any_cons, hk]; rfl
  | e :: r, h => by
    rw [List.any_cons, Bool.or_eq_false_iff] at h
    unfold putL
    by_cases he : e.key.isStr name = true
    · rw [if_pos he, List.any_cons, Bool.or_eq_false_iff]; exact ⟨h.1, h.2⟩
    · rw [if_neg he, List.any_cons, Bool.or_eq_false_iff]; exact ⟨h.1, putL_nr hk r h.2⟩
/-- what is kept of a dict that __init__ fills -/
structure WI (es : List DictEntry) (k : Nat) (al : List (PySem.Str × Value)) : Prop where
  len : es.length ≤ k
  nr : es.any (·.refKey) = false
  has : ∀ p ∈ al, fv p.1 es = some p.2
theorem WI.some {es : List DictEntry} {k : Nat} {al : List (PySem.Str × Value)} (W : WI es k al) (y : PySem.Str) : (getL y es).isSome = true := by
  unfold getL
  cases List.find? (fun x => x.key.isStr y) es with
  | some e => rfl
  | none => simp only [W.nr]; rfl
theorem WI.len1 {es : List DictEntry} {k : Nat} {al : List (PySem.Str × Value)} {name : PySem.Str} {hsh : Int} {t : Tok} {v : Value} (W : WI es k al) (h : k + 1 ≤ 1000) : (putL name hsh (.str name t) v es).length ≤ 1000 :=
  Nat.le_trans (putL_fvn (isStr_self _ _) es).1 (Nat.le_trans (Nat.succ_le_succ W.len) h)
theorem WI.put {es : List DictEntry} {k : Nat} {al : List (PySem.Str × Value)} {name : PySem.Str} {hsh : Int} {t : Tok} {v : Value} (W : WI es k al) (e : al.all (fun p => !(p.1 == name)) = true) : WI (putL name hsh (.str name t) v es) (k + 1) ((name, v) :: al) := by
  obtain ⟨a, b, c⟩ := putL_fvn (name := name) (hsh := hsh) (v := v) (isStr_self name t) es
  refine ⟨Nat.le_trans a (Nat.succ_le_succ W.len), putL_nr rfl es W.nr, fun p hp => ?_⟩
  rcases List.mem_cons.mp hp with rfl | hp
  · exact b
  · have := List.all_eq_true.mp e p hp
    rw [c p.1 (by simpa using this)]; exact W.has p hp
theorem WI.drop {es : List DictEntry} {k : Nat} {al : List (PySem.Str × Value)} {p : PySem.Str × Value} (W : WI es k (p :: al)) : WI es k al := ⟨W.len, W.nr, fun q hq => W.has q (.tail _ hq)⟩
theorem wi_skip0 {G : Prop} {es : List DictEntry} {k : Nat} {al : List (PySem.Str × Value)} {name : PySem.Str} {hsh : Int} {t : Tok} {v : Value} {g h : Heap} {L x d : Addr} {o : Obj} {n : Nat} {rest : Ledger} (W : WI es k al) (N : News g L h ((x, o) :: (d, dictOf (putL name hsh (.str name t) v es) n) :: rest)) (e : al.all (fun p => !(p.1 == name)) = true)
    (K : ∀ es n, WI es (k + 1) al → News g L h ((x, o) :: (d, dictOf es n) :: rest) → G) : G := K _ n (W.put e).drop N
theorem wi_skip1 {G : Prop} {es : List DictEntry} {k : Nat} {al : List (PySem.Str × Value)} {name : PySem.Str} {hsh : Int} {t : Tok} {v : Value} {g h : Heap} {L x d : Addr} {o : Obj} {n : Nat} {q : Addr × Obj} {rest : Ledger} (W : WI es k al) (N : News g L h (q :: (x, o) :: (d, dictOf (putL name hsh (.str name t) v es) n) :: rest)) (e : al.all (fun p => !(p.1 == name)) = true)
    (K : ∀ es n, WI es (k + 1) al → News g L h ((x, o) :: (d, dictOf es n) :: rest) → G) : G := K _ n (W.put e).drop fun p hp => N p (.tail _ hp)
theorem wi_add0 {G : Prop} {es : List DictEntry} {k : Nat} {al : List (PySem.Str × Value)} {name : PySem.Str} {hsh : Int} {t : Tok} {v : Value} {g h : Heap} {L x d : Addr} {o : Obj} {n : Nat} {rest : Ledger} (W : WI es k al) (N : News g L h ((x, o) :: (d, dictOf (putL name hsh (.str name t) v es) n) :: rest)) (e : al.all (fun p => !(p.1 == name)) = true)
    (K : ∀ es n v', v' = v → WI es (k + 1) ((name, v') :: al) → News g L h ((x, o) :: (d, dictOf es n) :: rest) → G) : G := K _ n _ rfl (W.put e) N
theorem wi_add1 {G : Prop} {es : List DictEntry} {k : Nat} {al : List (PySem.Str × Value)} {name : PySem.Str} {hsh : Int} {t : Tok} {v : Value} {g h : Heap} {L x d : Addr} {o : Obj} {n : Nat} {q : Addr × Obj} {rest : Ledger} (W : WI es k al) (N : News g L h (q :: (x, o) :: (d, dictOf (putL name hsh (.str name t) v es) n) :: rest)) (e : al.all (fun p => !(p.1 == name)) = true)
    (K : ∀ es n, WI es (k + 1) ((name, v) :: al) → News g L h ((x, o) :: (d, dictOf es n) :: q :: rest) → G) : G := K _ n (W.put e) (cb_drop N (sub_cons (.tail _ (.head _)) (sub_cons (.tail _ (.tail _ (.head _))) (sub_cons (.head _) (sub_tail (sub_tail (sub_tail sub_refl)))))))
theorem WI.nil : WI [] 0 [] := ⟨Nat.le_refl _, rfl, fun _ h => nomatch h⟩
theorem kw_W13_w : True := by
  k_with "setAttr ref" => (k_here; k_dflt (refine' set_dict ?k1 ?k2 ?k3 ?k4 ?k5 ?k6 ?k7 ?k8 ?k9 ?k10 ?k11 ?k12 ?k13 ?_; (case k1 => k_asm); (case k2 => k_asm); (case k3 => k_asm); (case k4 => k_inst); (case k5 => exact rfl); (case k6 => k_is); (case k7 => k_is); (case k8 => k_is); (case k9 => k_is); (case k10 => exact WI.some (by with_reducible assumption) _); (case k11 => exact rfl); (case k12 => k_upd); (case k13 => exact WI.len1 (by with_reducible assumption) (by decide)); k_whole); intro h' F' N'; (try k_sweep))
  k_with "execs cons" => (refine hold ?_)
  k_with "NX" => (unfold Hold; (try (refine wp_tk s ?_; intro _)); refine wpAny_execs_cons ?_; k_steps; (with_reducible rename News _ _ _ _ => N8))
  k_with "SK0" => (walk_at "NX"; refine wi_skip0 (by with_reducible assumption) N8 (by kernel_rfl) ?_; intro es9 n9 W9 N9; clear N8)
  k_with "SK1" => (walk_at "NX"; refine wi_skip1 (by with_reducible assumption) N8 (by kernel_rfl) ?_; intro es9 n9 W9 N9; clear N8)
  k_with "AD0" => (walk_at "NX"; refine wi_add0 (by with_reducible assumption) N8 (by kernel_rfl) ?_; intro es9 n9 v9 hv9 W9 N9; clear N8)
  k_with "AD1" => (walk_at "NX"; refine wi_add1 (by with_reducible assumption) N8 (by kernel_rfl) ?_; intro es9 n9 W9 N9; clear N8)
  trivial
theorem world_spec (w : World) (news : Ledger) :
   Does w 216 3 [] news (fun K => ∀ x d es n il ol dl rt st, WE es il ol dl (Str.ofString "") rt 0 st → (∀ p ∈ news, p.1 < d) → @LT.lt Nat _ d x → @LT.lt Nat _ x ol → @LT.lt Nat _ ol il → @LT.lt Nat _ il dl → K (.ref x) ((x, instObj 216 d) :: (d, dictOf es n) :: (ol, listOf [].toArray 0) :: (il, listOf [].toArray 0) :: (dl, listOf [].toArray 0) :: news)) := by
  unfold Does
  intro mean mg mb dp un gd cn cs a ccd cl outer A₀ base h₀ L m s Q E B F X N T hk hd hu ret
  k_dflt (refine' call_cls F X N ?k4 ?k5 ?k6 ?_; (case k4 => k_is); (case k5 => k_is); (case k6 => k_is))
  intro x d h1 F1 N1 l1 l2
  (try k_lt l1)
  (try k_lt2 l2)
  k_dflt (refine' code_def (binds := [(Str.ofString "self", .ref x), (Str.ofString "bits", .int 16 503), (Str.ofString "digits", .int 9 504), (Str.ofString "most_steps", .int 2000 505), (Str.ofString "most_depth", .int 20 506), (Str.ofString "room", .int 2000 507)]) B F1 X N1 T rfl rfl hk ?k6 ?k7 ?k8 ?k9 ?kB ?_ ?c2 ?c3 ?c4 ?c5)
  case k6 => k_is
  case k7 => k_is
  case k8 => ktr_room
  case k9 => exact binds_K (X.keeps F1.keep) rfl (by k_is) rfl rfl rfl
  case kB => exact locs rfl
  case c2 => exact rfl
  case c3 => exact rfl
  case c4 => exact rfl
  case c5 => decide
  intro g' L' h' FG' F' N' B' X' T'
  (try dsimp only)
  k_fold
  have W9 := WI.nil
  refine (?_ : wpAny _ _ (execs (_ :: _) _) _ _ _)
  k_steps
  walk_at "SK0"
  walk_at "SK0"
  walk_at "SK0"
  walk_at "SK0"
  walk_at "SK0"
  walk_at "SK1"
  walk_at "SK1"
  walk_at "SK1"
  walk_at "SK1"
  walk_at "AD1"
  walk_at "AD0"; have hr9 := hv9
  walk_at "AD1"
  walk_at "SK1"
  walk_at "SK1"
  walk_at "SK1"
  walk_at "AD1"
  walk_at "AD0"
  walk_at "SK0"
  walk_at "SK0"
  walk_at "SK0"
  walk_at "SK0"
  walk_at "SK0"
  walk_at "SK0"
  walk_at "SK0"
  walk_at "SK0"
  walk_at "SK0"
  walk_at "SK1"
  unfold Hold; refine wpAny_execs_cons ?_; k_steps
  (with_reducible rename News _ _ _ _ => N8)
  refine wi_skip1 (by with_reducible assumption) N8 (by kernel_rfl) ?_; intro es9 n9 W9 N9
  (with_reducible rename Fr _ _ _ _ => F9)
  subst hv9 hr9
  exact ret x d es9 n9 _ _ _ _ _ (WE.mk (Nat.le_trans W9.len (by decide)) (getL_iff.mpr (W9.has _ (.tail _ (.tail _ (.head _))))) (getL_iff.mpr (W9.has _ (.tail _ (.tail _ (.tail _ (.tail _ (.head _))))))) (getL_iff.mpr (W9.has _ (.tail _ (.tail _ (.tail _ (.head _)))))) (getL_iff.mpr (W9.has _ (.tail _ (.head _)))) (getL_iff.mpr (W9.has _ (.head _)))) l1 (lt_two l2) (by omega) (by omega) (by omega) _ _ F9
    (cb_drop N9 (sub_cons (.head _) (sub_cons (.tail _ (.head _)) (sub_cons (.tail _ (.tail _ (.tail _ (.tail _ (.head _))))) (sub_cons (.tail _ (.tail _ (.tail _ (.head _)))) (sub_cons (.tail _ (.tail _ (.head _))) (sub_tail (sub_tail (sub_tail (sub_tail (sub_tail sub_refl)))))))))))
end Mine
end
section
namespace Mine
theorem kw_W14_0 : True := by
  k_with_none
  w_top off
  k_with "exec Assign" => walk_at "FOLD"
  k_with "exec Return some" => walk_at "FOLD"
  k_with "exec If" => walk_at "FOLD"
  k_with "exec AugAssign" => walk_at "FOLD"
  k_with "exec Expr" => walk_at "FOLD"
  k_with "eval Tuple" => walk_at "FOLD"
  k_with "eval List" => walk_at "FOLD"
  k_with "eval BinOp" => walk_at "FOLD"
  k_with "eval Call" => walk_at "FOLD"
  k_with "eval Subscript" => walk_at "FOLD"
  k_with "eval IfExp" => walk_at "FOLD"
  k_with "isTrue BoolOp" => walk_at "FOLD"
  k_with "isTrue Compare" => walk_at "FOLD"
  k_with "eval Call Attribute" => walk_at "FOLD"
  k_with "FOLD" => ((fail_if_success (fail_if_success k_fold)); refine (let qk := _; let ek := _; (?_ : wpAny _ _ _ qk ek _)))
  k_with "execs cons" => (refine wp_tk s ?_; intro _)
  k_with "ENTER" => ((case k6 => k_is); (case k7 => k_is); (case k8 => ktr_room); (case k9 => exact BindsTo.of_eq rfl); (case c5 => decide); (case kB => exact locs rfl); (case c2 => exact rfl); (case c3 => exact rfl); (case c4 => exact rfl); k_whole)
  k_with "LpPost" => (dsimp only [LpPost])
  k_with "USE" => ((case k1 => k_asm); (case k2 => k_asm); (case k3 => k_asm); (case k4 => k_asm); (case k5 => k_asm); (case kK => first | exact rfl | assumption); (case kd => first | exact dp_lt (by with_reducible assumption) (by decide) | ktr_room); (case ku => first | exact un_lt (by with_reducible assumption) (by decide) | ktr_units))
  k_with "SIDE" => first | assumption | omega | (split <;> omega)
  k_with "call builtin:str.find" => (k_here; refine find_r (by decide +kernel) (by omega) ?_; intro _)
  k_with "SUB" => ((try simp only [List.cons_append, List.nil_append]); repeat (first | with_reducible exact sub_refl | with_reducible exact sub_nil | ((with_reducible refine sub_cons ?hm ?_); (case hm => k_mem)) | with_reducible refine sub_tail ?_ | with_reducible refine sub_apR ?_))
  k_with "WhlIf" => (refine whlIf_dec ?_ ?_ <;> intro _ <;> try (exfalso; omega))
  k_with "call builtin:abs" => (k_here; refine abs_z ?_; intro z9 _ _ _ z91 z92)
  k_with "binaryOp Mod int int" => (k_here; refine mod_p (by omega) ?_)
  k_with "binaryOp FloorDiv int int" => (k_here; refine div_p (by omega) (by omega) ?_)
  k_with "WEANY" => first | with_reducible assumption | exact WE.setRow (by with_reducible assumption) | exact WE.setInputs (by with_reducible assumption) | exact WE.setSpot (by with_reducible assumption) | exact WE.setData (by with_reducible assumption)
  k_with "WEGET" => first | exact WE.inputs (by with_reducible assumption) | exact WE.out (by with_reducible assumption) | exact WE.row (by with_reducible assumption) | exact WE.data (by with_reducible assumption) | exact WE.spot (by with_reducible assumption) | exact (putL_found (WE.row (by with_reducible assumption))).2.1 | exact (putL_found (WE.row (by with_reducible assumption))).2.2 _ _ (by decide +kernel) (WE.out (by with_reducible assumption)) | exact (putL_found (WE.row (by with_reducible assumption))).2.2 _ _ (by decide +kernel) (WE.inputs (by with_reducible assumption))
  k_with "getAttr ref" => (k_here; k_dflt (refine' get_own ?k1 ?k2 ?k3 ?k4 ?k5 ?k6 ?k7 ?k8 ?k9 ?_; (case k1 => k_asm); (case k2 => k_asm); (case k3 => k_inst); (case k4 => k_is); (case k5 => k_is); (case k6 => k_is); (case k7 => k_is); (case k8 => walk_at "WEGET"); (case k9 => k_handed); k_whole))
  k_with "WELEN" => exact Nat.le_trans (Nat.le_of_eq (putL_found (by walk_at "WEGET")).1) (Nat.le_trans (WE.len (by with_reducible assumption)) (by decide))
  k_with "setAttr ref" => (k_here; k_dflt (refine' set_dict ?k1 ?k2 ?k3 ?k4 ?k5 ?k6 ?k7 ?k8 ?k9 ?k10 ?k11 ?k12 ?k13 ?_; (case k1 => k_asm); (case k2 => k_asm); (case k3 => k_asm); (case k4 => k_inst); (case k5 => exact rfl); (case k6 => k_is); (case k7 => k_is); (case k8 => k_is); (case k9 => k_is); (case k10 => exact we_some (by walk_at "WEGET")); (case k11 => exact rfl); (case k12 => k_upd); (case k13 => walk_at "WELEN"); k_whole); intro h' F' N'; (try k_sweep))
  trivial
theorem kw_W14_m0 : True := by
  k_with "KALL" => (with_reducible assumption)
  trivial
theorem kw_W14_1 : True := by
  k_with "call builtin:list.append" => (k_here; (with_reducible show wpAny _ _ (call (Value.builtin _) [Value.ref _, _]) _ _ _); k_dflt (refine' append_K ?k1 ?k2 ?k3 ?_ ?z; (case k1 => k_asm); (case k2 => k_asm); (case k3 => k_upd); (case z => with_reducible assumption); k_whole); intro h' F' N'; (try k_sweep))
  k_with "call builtin:len" => (k_here; (with_reducible show wpAny _ _ (call (Value.builtin "len") [Value.ref _]) _ _ _); refine len_L (by k_asm) (by k_dflt k_mem) (by (simp only [List.length_cons, List.length_nil]); omega) ?_; (try simp only [List.length_cons, List.length_nil]))
  trivial
theorem pop0 {prog : Program} {w : World} {A : Around} {E : Value → Shared → Prop} {s : Shared} {h₀ : Heap} {L D : Addr} {m : PySem.Str → Option Value} {news news' : Ledger} {q : List Value} {y : Value} {u : Tok} {n : Nat} {Q : Value → Shared → Prop} (F : Fr h₀ L s.heap m) (N : News h₀ L s.heap news)
    (U : Upd D (listOf (y :: q).toArray n) (listOf q.toArray (n + 1)) news news') (hz : q.length ≤ 1000) (h : ∀ h', Fr h₀ L h' m → News h₀ L h' news' → Q y { s with heap := h' }) : wpAny (model prog w) A (call (.builtin "list.pop") [.ref D, .int 0 u]) Q E s := by
  refine kl_popAt (k := 0) (p := []) (q := q) F N (by rfl) ?_ (by rfl) U (by rw [sizeLine_eq]; simp only [List.length_cons]; omega) h
  unfold seqIndex?
  simp
theorem kw_W14_2 : True := by
  k_with "call builtin:list.pop" => (k_here; k_dflt (refine' pop0 ?F ?N ?U ?z ?_; (case F => k_asm); (case N => k_asm); (case U => k_upd); (case z => first | omega | (simp only [List.length_cons, List.length_nil]; omega))); intro h' F' N')
  trivial
theorem end_spec (w : World) (rest : Ledger) (x d ol : Addr) (es : List DictEntry) (n k : Nat) (il dl : Addr) (row : PySem.Str) (rt : Tok) (spot : Int) (st : Tok) (os : List Value) (W : WE es il ol dl row rt spot st) (hx : ∀ p ∈ rest, p.1 ≠ x) (hd' : ∀ p ∈ rest, p.1 ≠ d) (ho : ∀ p ∈ rest, p.1 ≠ ol) (dx : @LT.lt Nat _ d x) (xo : @LT.lt Nat _ x ol) (hos : os.length ≤ 10) (hrow : row.length ≤ 1000) :
   Does w 21 1 [.ref x] ((x, instObj 216 d) :: (d, dictOf es n) :: (ol, listOf os.toArray k) :: rest) (fun K => ∀ es' n' t, WE es' il ol dl (Str.ofString "") t spot st → K .none ((x, instObj 216 d) :: (d, dictOf es' n') :: (ol, listOf (os ++ [Value.str row rt]).toArray (k + 1)) :: rest)) := by
  unfold Does
  intro mean mg mb dp un gd cn cs a ccd cl outer A₀ base h₀ L m s Q E B F X N T hk hd hu ret
  refine wpAny_call ?_
  k_dflt (refine' code_def (binds := [(Str.ofString "page", .ref x)]) B F X N T rfl rfl hk ?k6 ?k7 ?k8 ?k9 ?kB ?_ ?c2 ?c3 ?c4 ?c5)
  walk_at "ENTER"
  intro g' L' h' FG' F' N' B' X' T'
  k_fold
  have hsz : os.toArray.size ≤ sizeLine := by rw [List.size_toArray, sizeLine_eq]; omega
  k_steps
  exact ret _ _ _ (WE.setRow W) _ _ (by k_asm) (by rw [← List.push_toArray]; k_asm)
theorem kw_W14_3 : True := by
  k_with "call ref" => (k_here; k_dflt (refine' Does.use (end_spec _ _ _ _ _ _ _ _ _ _ _ _ _ _ _ ?s1 ?s2 ?s3 ?s4 ?s5 ?s6 ?s7 ?s8) ?k1 ?k2 ?k3 ?k4 ?k5 ?kK ?kd ?ku ?_); walk_at "USE"; (case s1 => walk_at "WEANY"); (case s2 => with_reducible assumption); (case s3 => with_reducible assumption); (case s4 => with_reducible assumption); (case s5 => with_reducible assumption); (case s6 => with_reducible assumption); (case s7 => with_reducible assumption); (case s8 => first | with_reducible assumption | decide +kernel); intro es9 n9 t9 W9 h9 tk9 F9 N9; (try dsimp only); (try k_fold))
  trivial
theorem prompt_spec (w : World) (rest : Ledger) (x d ol : Addr) (es : List DictEntry) (n k : Nat) (il dl : Addr) (rt t1 : Tok) (spot : Int) (st : Tok) (os : List Value) (W : WE es il ol dl (Str.ofString "") rt spot st) (hx : ∀ p ∈ rest, p.1 ≠ x) (hd' : ∀ p ∈ rest, p.1 ≠ d) (ho : ∀ p ∈ rest, p.1 ≠ ol) (dx : @LT.lt Nat _ d x) (xo : @LT.lt Nat _ x ol) (hos : os.length ≤ 10) :
   Does w 134 2 [.ref x, .str (Str.ofString "N") t1, .bool true] ((x, instObj 216 d) :: (d, dictOf es n) :: (ol, listOf os.toArray k) :: rest) (fun K => ∀ es' n' t t2, WE es' il ol dl (Str.ofString "") t spot st → K .none ((x, instObj 216 d) :: (d, dictOf es' n') :: (ol, listOf (os ++ [Value.str (Str.ofString "N? ") t2]).toArray (k + 1)) :: rest)) := by
  unfold Does
  intro mean mg mb dp un gd cn cs a ccd cl outer A₀ base h₀ L m s Q E B F X N T hk hd hu ret
  refine wpAny_call ?_
  k_dflt (refine' code_def (binds := [(Str.ofString "world", .ref x), (Str.ofString "prompt", .str (Str.ofString "N") t1), (Str.ofString "is_marked", .bool true)]) B F X N T rfl rfl hk ?k6 ?k7 ?k8 ?k9 ?kB ?_ ?c2 ?c3 ?c4 ?c5)
  walk_at "ENTER"
  intro g' L' h' FG' F' N' B' X' T'
  k_fold
  k_steps
  have hN : (Str.ofString "" ++ Str.ofString "N" ++ Str.ofString "? ") = Str.ofString "N? " := by decide +kernel
  exact ret es9 _ _ _ W9 _ _ (by k_asm) (by rw [← hN]; k_asm)
theorem input_spec (w : World) (rest : Ledger) (x d il : Addr) (es : List DictEntry) (n k : Nat) (ol dl : Addr) (oo : Obj) (row : PySem.Str) (rt : Tok) (spot : Int) (st : Tok) (v : PySem.Str) (tv : Tok) (vs : List Value) (W : WE es il ol dl row rt spot st) (hi : ∀ p ∈ rest, p.1 ≠ il) (dx : @LT.lt Nat _ d x) (xo : @LT.lt Nat _ x ol) (oi : @LT.lt Nat _ ol il) (hvs : vs.length ≤ 10) :
   Does w 127 1 [.ref x] ((x, instObj 216 d) :: (d, dictOf es n) :: (ol, oo) :: (il, listOf (Value.str v tv :: vs).toArray k) :: rest) (fun K => ∀ k', K (.str v tv) ((x, instObj 216 d) :: (d, dictOf es n) :: (ol, oo) :: (il, listOf vs.toArray k') :: rest)) := by
  unfold Does
  intro mean mg mb dp un gd cn cs a ccd cl outer A₀ base h₀ L m s Q E B F X N T hk hd hu ret
  refine wpAny_call ?_
  k_dflt (refine' code_def (binds := [(Str.ofString "world", .ref x)]) B F X N T rfl rfl hk ?k6 ?k7 ?k8 ?k9 ?kB ?_ ?c2 ?c3 ?c4 ?c5)
  walk_at "ENTER"
  intro g' L' h' FG' F' N' B' X' T'
  k_fold
  k_steps
  · exfalso; omega
  exact ret _ _ _ (by k_asm) (by k_asm)
end Mine
end
section
namespace Mine
theorem kw_W15_0 : True := by
  k_with_none
  w_top off
  k_with "exec Assign" => walk_at "FOLD"
  k_with "exec Return some" => walk_at "FOLD"
  k_with "exec If" => walk_at "FOLD"
  k_with "exec AugAssign" => walk_at "FOLD"
  k_with "exec Expr" => walk_at "FOLD"
  k_with "eval Tuple" => walk_at "FOLD"
  k_with "eval List" => walk_at "FOLD"
  k_with "eval BinOp" => walk_at "FOLD"
  k_with "eval Call" => walk_at "FOLD"
  k_with "eval Subscript" => walk_at "FOLD"
  k_with "eval IfExp" => walk_at "FOLD"
  k_with "isTrue BoolOp" => walk_at "FOLD"
  k_with "isTrue Compare" => walk_at "FOLD"
  k_with "eval Call Attribute" => walk_at "FOLD"
  k_with "FOLD" => ((fail_if_success (fail_if_success k_fold)); refine (let qk := _; let ek := _; (?_ : wpAny _ _ _ qk ek _)))
  k_with "execs cons" => (refine wp_tk s ?_; intro _)
  k_with "ENTER" => ((case k6 => k_is); (case k7 => k_is); (case k8 => ktr_room); (case k9 => exact BindsTo.of_eq rfl); (case c5 => decide); (case kB => exact locs rfl); (case c2 => exact rfl); (case c3 => exact rfl); (case c4 => exact rfl); k_whole)
  k_with "LpPost" => (dsimp only [LpPost])
  k_with "USE" => ((case k1 => k_asm); (case k2 => k_asm); (case k3 => k_asm); (case k4 => k_asm); (case k5 => k_asm); (case kK => first | exact rfl | assumption); (case kd => first | exact dp_lt (by with_reducible assumption) (by decide) | ktr_room); (case ku => first | exact un_lt (by with_reducible assumption) (by decide) | ktr_units))
  k_with "SIDE" => first | assumption | omega | (split <;> omega)
  k_with "call builtin:str.find" => (k_here; refine find_r (by decide +kernel) (by omega) ?_; intro _)
  k_with "SUB" => ((try simp only [List.cons_append, List.nil_append]); repeat (first | with_reducible exact sub_refl | with_reducible exact sub_nil | ((with_reducible refine sub_cons ?hm ?_); (case hm => k_mem)) | with_reducible refine sub_tail ?_ | with_reducible refine sub_apR ?_))
  k_with "WhlIf" => (refine whlIf_dec ?_ ?_ <;> intro _ <;> try (exfalso; omega))
  k_with "call builtin:abs" => (k_here; refine abs_z ?_; intro z9 _ _ _ z91 z92)
  k_with "binaryOp Mod int int" => (k_here; refine mod_p (by omega) ?_)
  k_with "binaryOp FloorDiv int int" => (k_here; refine div_p (by omega) (by omega) ?_)
  k_with "WEANY" => first | with_reducible assumption | exact WE.setRow (by with_reducible assumption) | exact WE.setInputs (by with_reducible assumption) | exact WE.setSpot (by with_reducible assumption) | exact WE.setData (by with_reducible assumption)
  k_with "WEGET" => first | exact WE.inputs (by with_reducible assumption) | exact WE.out (by with_reducible assumption) | exact WE.row (by with_reducible assumption) | exact WE.data (by with_reducible assumption) | exact WE.spot (by with_reducible assumption) | exact (putL_found (WE.row (by with_reducible assumption))).2.1 | exact (putL_found (WE.row (by with_reducible assumption))).2.2 _ _ (by decide +kernel) (WE.out (by with_reducible assumption)) | exact (putL_found (WE.row (by with_reducible assumption))).2.2 _ _ (by decide +kernel) (WE.inputs (by with_reducible assumption))
  k_with "getAttr ref" => (k_here; k_dflt (refine' get_own ?k1 ?k2 ?k3 ?k4 ?k5 ?k6 ?k7 ?k8 ?k9 ?_; (case k1 => k_asm); (case k2 => k_asm); (case k3 => k_inst); (case k4 => k_is); (case k5 => k_is); (case k6 => k_is); (case k7 => k_is); (case k8 => walk_at "WEGET"); (case k9 => k_handed); k_whole))
  k_with "WELEN" => exact Nat.le_trans (Nat.le_of_eq (putL_found (by walk_at "WEGET")).1) (Nat.le_trans (WE.len (by with_reducible assumption)) (by decide))
  k_with "setAttr ref" => (k_here; k_dflt (refine' set_dict ?k1 ?k2 ?k3 ?k4 ?k5 ?k6 ?k7 ?k8 ?k9 ?k10 ?k11 ?k12 ?k13 ?_; (case k1 => k_asm); (case k2 => k_asm); (case k3 => k_asm); (case k4 => k_inst); (case k5 => exact rfl); (case k6 => k_is); (case k7 => k_is); (case k8 => k_is); (case k9 => k_is); (case k10 => exact we_some (by walk_at "WEGET")); (case k11 => exact rfl); (case k12 => k_upd); (case k13 => walk_at "WELEN"); k_whole); intro h' F' N'; (try k_sweep))
  trivial
theorem kw_W15_m0 : True := by
  k_with "KALL" => (with_reducible assumption)
  trivial
theorem kw_W15_1 : True := by
  k_with "call builtin:list.append" => (k_here; (with_reducible show wpAny _ _ (call (Value.builtin _) [Value.ref _, _]) _ _ _); k_dflt (refine' append_K ?k1 ?k2 ?k3 ?_ ?z; (case k1 => k_asm); (case k2 => k_asm); (case k3 => k_upd); (case z => with_reducible assumption); k_whole); intro h' F' N'; (try k_sweep))
  k_with "call builtin:len" => (k_here; (with_reducible show wpAny _ _ (call (Value.builtin "len") [Value.ref _]) _ _ _); refine len_L (by k_asm) (by k_dflt k_mem) (by (simp only [List.length_cons, List.length_nil]); omega) ?_; (try simp only [List.length_cons, List.length_nil]))
  trivial
theorem kw_W15_m1 : True := by
  k_with "KALL" => (first | with_reducible assumption | exact List.forall_mem_cons.mpr ⟨by omega, by with_reducible assumption⟩)
  trivial
theorem kw_W15_2 : True := by
  k_with "exec While" => (refine lp_start ?_)
  k_with "exec While Compare cons nil" => (refine lp_start ?_)
  k_with "OFFR" => first | with_reducible assumption | exact List.forall_mem_cons.mpr ⟨Nat.ne_of_gt (by dsimp only; omega), by with_reducible assumption⟩
  k_with "call ref" => (k_here; k_dflt (refine' Does.use (end_spec _ _ _ _ _ _ _ _ _ _ _ _ _ _ _ ?s1 ?s2 ?s3 ?s4 ?s5 ?s6 ?s7 ?s8) ?k1 ?k2 ?k3 ?k4 ?k5 ?kK ?kd ?ku ?_); walk_at "USE"; (case s1 => walk_at "WEANY"); (case s2 => walk_at "OFFR"); (case s3 => walk_at "OFFR"); (case s4 => walk_at "OFFR"); (case s5 => with_reducible assumption); (case s6 => with_reducible assumption); (case s7 => exact Nat.le_of_ble_eq_true rfl); (case s8 => first | with_reducible assumption | decide +kernel); intro es9 n9 t9 W9 h9 tk9 F9 N9; (try dsimp only); (try k_fold))
  k_with "call ref" => (k_here; k_dflt (refine' Does.use (prompt_spec _ _ _ _ _ _ _ _ _ _ _ _ _ _ _ ?s1 ?s2 ?s3 ?s4 ?s5 ?s6 ?s7) ?k1 ?k2 ?k3 ?k4 ?k5 ?kK ?kd ?ku ?_); walk_at "USE"; (case s1 => walk_at "WEANY"); (case s2 => walk_at "OFFR"); (case s3 => walk_at "OFFR"); (case s4 => walk_at "OFFR"); (case s5 => with_reducible assumption); (case s6 => with_reducible assumption); (case s7 => exact Nat.le_of_ble_eq_true rfl); intro es9 n9 t9 u9 W9 h9 tk9 F9 N9; (try dsimp only); (try k_fold))
  k_with "call ref" => (k_here; k_dflt (refine' Does.use (input_spec _ _ _ _ _ _ _ _ _ _ _ _ _ _ _ _ _ _ ?s1 ?s2 ?s3 ?s4 ?s5 ?s6) ?k1 ?k2 ?k3 ?k4 ?k5 ?kK ?kd ?ku ?_); walk_at "USE"; (case s1 => walk_at "WEANY"); (case s2 => with_reducible assumption); (case s3 => with_reducible assumption); (case s4 => with_reducible assumption); (case s5 => with_reducible assumption); (case s6 => exact Nat.le_of_ble_eq_true rfl); intro k9 h9 tk9 F9 N9; (try dsimp only); (try k_fold))
  trivial
theorem mem_t4 {a b c e p : Addr × Obj} {r : Ledger} (h : p ∈ r) : p ∈ a :: b :: c :: e :: r := .tail _ (.tail _ (.tail _ (.tail _ h)))
theorem kw_W15_3 : True := by
  k_with "call ref" => (k_here; k_dflt (refine' Does.use (fit_spec _ _ _ _ _ _ _ _ _ ?s1 (LamIn.mono hL (fun _ => mem_t4)) (mem_t4 hkl) (DatAll.mono (fun _ => mem_t4) hks) hkn ?s6) ?k1 ?k2 ?k3 ?k4 ?k5 ?kK ?kd ?ku ?_); walk_at "USE"; (case s1 => first | exact hrow | exact hfit); (case s6 => first | exact hN1 | exact hN2); refine And.intro (fun hz9 h9 tk9 F9 N9 => ?_) (fun ds9 hd9 fl9 vs9 n9 tl9 hD9 o9 h9 tk9 F9 N9 => ?_); (all_goals ((try dsimp only); (try k_fold))))
  trivial
theorem ask_spec (w : World) (rest : Ledger) (x d ol il : Addr) (es : List DictEntry) (n ko ki : Nat) (dl : Addr) (rt t1 tr tf tl' : Tok) (spot : Int) (st : Tok) (row fit : PySem.Str) (left : Value) (f kl : Addr) (kvs : List Value) (kn : Nat) (ks : List PySem.Str)
   (W : WE es il ol dl (Str.ofString "") rt spot st) (hx : ∀ p ∈ rest, p.1 ≠ x) (hd' : ∀ p ∈ rest, p.1 ≠ d) (ho : ∀ p ∈ rest, p.1 ≠ ol) (hi : ∀ p ∈ rest, p.1 ≠ il) (dx : @LT.lt Nat _ d x) (xo : @LT.lt Nat _ x ol) (oi : @LT.lt Nat _ ol il)
   (hrow : row.length ≤ 1000) (hfit : fit.length ≤ 1000) (hL : LamIn rest f) (hkl : (kl, listOf kvs.toArray kn) ∈ rest) (hks : DatAll rest kvs (ks.map Dat.str)) (hkn : ks.length ≤ 3)
   (hN1 : ∀ acc, ToldR row 0 [] (some acc) → ∀ p ∈ acc, p.2 = false → (p.1 == PySem.Str.ofString "") = false → NumT p.1) (hN2 : ∀ acc, ToldR fit 0 [] (some acc) → ∀ p ∈ acc, p.2 = false → (p.1 == PySem.Str.ofString "") = false → NumT p.1) (hno : ¬ FitR fit ks none) :
   Does w 141 9 [.ref x, .str (Str.ofString "N") t1, .bool true, .ref kl, .ref f] ((x, instObj 216 d) :: (d, dictOf es n) :: (ol, listOf [].toArray ko) :: (il, listOf [Value.str row tr, .str fit tf, left].toArray ki) :: rest) (fun K => ∀ fl vs nf tl es' n' ko' ki' t, WE es' il ol dl (Str.ofString "") t spot st → (∀ q ∈ rest, ∀ p ∈ (fl, listOf vs.toArray nf) :: tl, q.1 < p.1) → (∀ p ∈ (fl, listOf vs.toArray nf) :: tl, il < p.1) →
     (∀ ds t2, FitR row ks (some ds) → DatAll (nought :: tl) vs ds → K (.ref fl) ((fl, listOf vs.toArray nf) :: (tl ++ (x, instObj 216 d) :: (d, dictOf es' n') :: (ol, listOf [Value.str (Str.ofString "N? ") t2].toArray ko') :: (il, listOf [Value.str fit tf, left].toArray ki') :: rest))) ∧
     (∀ ds t2 t3 t4, FitR row ks none → FitR fit ks (some ds) → DatAll (nought :: tl) vs ds → K (.ref fl) ((fl, listOf vs.toArray nf) :: (tl ++ (x, instObj 216 d) :: (d, dictOf es' n') :: (ol, listOf [Value.str (Str.ofString "N? ") t2, .str (Str.ofString "?Redo from start") t3, .str (Str.ofString "N? ") t4].toArray ko') :: (il, listOf [left].toArray ki') :: rest)))) := by
  unfold Does
  intro mean mg mb dp un gd cn cs a ccd cl outer A₀ base h₀ L m s Q E B F X N T hk hd hu ret
  refine wpAny_call ?_
  k_dflt (refine' code_def (binds := [(Str.ofString "world", .ref x), (Str.ofString "prompt", .str (Str.ofString "N") t1), (Str.ofString "is_marked", .bool true), (Str.ofString "kinds", .ref kl), (Str.ofString "read_number", .ref f)]) B F X N T rfl rfl hk ?k6 ?k7 ?k8 ?k9 ?kB ?_ ?c2 ?c3 ?c4 ?c5)
  walk_at "ENTER"
  intro g' L' h' FG' F' N' B' X' T'
  k_fold
  k_steps
  refine lp_turn ?hE ?_
  case hE => passes_own
  k_steps
  · have hfn := hz9
    refine lp_turn ?hE ?_
    case hE => passes_own
    k_steps
    · exact absurd hz9 hno
    · refine lp_turn ?hE ?_
      case hE => passes_own
      k_steps
      exact (ret fl9 vs9 n9 tl9 _ _ _ _ _ W9 (fun q hq => o9 q (mem_t4 hq)) (fun p hp => o9 (il, _) (.tail _ (.tail _ (.tail _ (.head _)))) p hp)).2 ds9 _ _ _ hfn hd9 hD9 _ _ (by k_asm) (by k_asm)
  · refine lp_turn ?hE ?_
    case hE => passes_own
    k_steps
    exact (ret fl9 vs9 n9 tl9 _ _ _ _ _ W9 (fun q hq => o9 q (mem_t4 hq)) (fun p hp => o9 (il, _) (.tail _ (.tail _ (.tail _ (.head _)))) p hp)).1 ds9 _ hd9 hD9 _ _ (by k_asm) (by k_asm)
end Mine
end
section
namespace Mine
theorem kw_W16_0 : True := by
  k_with_none
  w_top off
  k_with "exec Assign" => walk_at "FOLD"
  k_with "exec Return some" => walk_at "FOLD"
  k_with "exec If" => walk_at "FOLD"
  k_with "exec AugAssign" => walk_at "FOLD"
  k_with "exec Expr" => walk_at "FOLD"
  k_with "eval Tuple" => walk_at "FOLD"
  k_with "eval List" => walk_at "FOLD"
  k_with "eval BinOp" => walk_at "FOLD"
  k_with "eval Call" => walk_at "FOLD"
  k_with "eval Subscript" => walk_at "FOLD"
  k_with "eval IfExp" => walk_at "FOLD"
  k_with "isTrue BoolOp" => walk_at "FOLD"
  k_with "isTrue Compare" => walk_at "FOLD"
  k_with "eval Call Attribute" => walk_at "FOLD"
  k_with "FOLD" => ((fail_if_success (fail_if_success k_fold)); refine (let qk := _; let ek := _; (?_ : wpAny _ _ _ qk ek _)))
  k_with "execs cons" => (refine wp_tk s ?_; intro _)
  k_with "ENTER" => ((case k6 => k_is); (case k7 => k_is); (case k8 => ktr_room); (case k9 => exact BindsTo.of_eq rfl); (case c5 => decide); (case kB => exact locs rfl); (case c2 => exact rfl); (case c3 => exact rfl); (case c4 => exact rfl); k_whole)
  k_with "LpPost" => (dsimp only [LpPost])
  k_with "USE" => ((case k1 => k_asm); (case k2 => k_asm); (case k3 => k_asm); (case k4 => k_asm); (case k5 => k_asm); (case kK => first | exact rfl | assumption); (case kd => first | exact dp_lt (by with_reducible assumption) (by decide) | ktr_room); (case ku => first | exact un_lt (by with_reducible assumption) (by decide) | ktr_units))
  k_with "SIDE" => first | assumption | omega | (split <;> omega)
  k_with "call builtin:str.find" => (k_here; refine find_r (by decide +kernel) (by omega) ?_; intro _)
  k_with "SUB" => ((try simp only [List.cons_append, List.nil_append]); repeat (first | with_reducible exact sub_refl | with_reducible exact sub_nil | ((with_reducible refine sub_cons ?hm ?_); (case hm => k_mem)) | with_reducible refine sub_tail ?_ | with_reducible refine sub_apR ?_))
  k_with "WhlIf" => (refine whlIf_dec ?_ ?_ <;> intro _ <;> try (exfalso; omega))
  k_with "call builtin:abs" => (k_here; refine abs_z ?_; intro z9 _ _ _ z91 z92)
  k_with "binaryOp Mod int int" => (k_here; refine mod_p (by omega) ?_)
  k_with "binaryOp FloorDiv int int" => (k_here; refine div_p (by omega) (by omega) ?_)
  k_with "WEANY" => first | with_reducible assumption | exact WE.setRow (by with_reducible assumption) | exact WE.setInputs (by with_reducible assumption) | exact WE.setSpot (by with_reducible assumption) | exact WE.setData (by with_reducible assumption)
  k_with "WEGET" => first | exact WE.inputs (by with_reducible assumption) | exact WE.out (by with_reducible assumption) | exact WE.row (by with_reducible assumption) | exact WE.data (by with_reducible assumption) | exact WE.spot (by with_reducible assumption) | exact (putL_found (WE.row (by with_reducible assumption))).2.1 | exact (putL_found (WE.row (by with_reducible assumption))).2.2 _ _ (by decide +kernel) (WE.out (by with_reducible assumption)) | exact (putL_found (WE.row (by with_reducible assumption))).2.2 _ _ (by decide +kernel) (WE.inputs (by with_reducible assumption))
  k_with "getAttr ref" => (k_here; k_dflt (refine' get_own ?k1 ?k2 ?k3 ?k4 ?k5 ?k6 ?k7 ?k8 ?k9 ?_; (case k1 => k_asm); (case k2 => k_asm); (case k3 => k_inst); (case k4 => k_is); (case k5 => k_is); (case k6 => k_is); (case k7 => k_is); (case k8 => walk_at "WEGET"); (case k9 => k_handed); k_whole))
  k_with "WELEN" => exact Nat.le_trans (Nat.le_of_eq (putL_found (by walk_at "WEGET")).1) (Nat.le_trans (WE.len (by with_reducible assumption)) (by decide))
  k_with "setAttr ref" => (k_here; k_dflt (refine' set_dict ?k1 ?k2 ?k3 ?k4 ?k5 ?k6 ?k7 ?k8 ?k9 ?k10 ?k11 ?k12 ?k13 ?_; (case k1 => k_asm); (case k2 => k_asm); (case k3 => k_asm); (case k4 => k_inst); (case k5 => exact rfl); (case k6 => k_is); (case k7 => k_is); (case k8 => k_is); (case k9 => k_is); (case k10 => exact we_some (by walk_at "WEGET")); (case k11 => exact rfl); (case k12 => k_upd); (case k13 => walk_at "WELEN"); k_whole); intro h' F' N'; (try k_sweep))
  trivial
theorem kw_W16_m0 : True := by
  k_with "KALL" => (with_reducible assumption)
  trivial
theorem kw_W16_1 : True := by
  k_with "call builtin:list.append" => (k_here; (with_reducible show wpAny _ _ (call (Value.builtin _) [Value.ref _, _]) _ _ _); k_dflt (refine' append_K ?k1 ?k2 ?k3 ?_ ?z; (case k1 => k_asm); (case k2 => k_asm); (case k3 => k_upd); (case z => with_reducible assumption); k_whole); intro h' F' N'; (try k_sweep))
  k_with "call builtin:len" => (k_here; (with_reducible show wpAny _ _ (call (Value.builtin "len") [Value.ref _]) _ _ _); refine len_L (by k_asm) (by k_dflt k_mem) (by first | omega | ((simp only [List.length_cons, List.length_nil]); omega)) ?_; (try simp only [List.length_cons, List.length_nil]))
  trivial
theorem kw_W16_m1 : True := by
  k_with "KMEM" => (first | with_reducible assumption | (change (_ : Addr × Obj) ∈ (_ : List (Addr × Obj)); with_reducible assumption) | exact List.mem_append.mpr (.inl (by with_reducible assumption)) | (refine List.mem_append.mpr (.inr ?_); k_mem))
  trivial
theorem kw_W16_2 : True := by
  k_with "subscriptTail" => (refine hold ?_)
  trivial
theorem kw_W16_m2 : True := by
  k_with "KALL" => (first | with_reducible assumption | (refine all_app (by with_reducible assumption) (fun p hp => Nat.ne_of_gt (lt_all (by with_reducible assumption) (by k_mem) hp))))
  trivial
theorem kw_W16_3 : True := by
  k_with "exec Raise some none" => (refine hold ?_)
  trivial
/-- what read_item makes of one piece -/
inductive ReadV (p k : PySem.Str) : Option Dat → Prop
  | text {y} : (k == kText) = true → textF p = some y → ReadV p k (some (.str y))
  | textNo : (k == kText) = true → textF p = none → ReadV p k none
  | val {d} : (k == kText) = false → VofR p k d → d ≠ .none → ReadV p k (some d)
  | valNo : (k == kText) = false → VofR p k .none → ReadV p k none
noncomputable def pD (p : PySem.Str) : Dat := .tuple [.int 10, .str p]
theorem text_spec2 (w : World) (news : Ledger) (x : PySem.Str) (t : Tok) (hx : x.length ≤ 1000) :
   Does w 148 3 [.str x t] news (fun K => (textF x = none → K .none news) ∧ ∀ y t, textF x = some y → K (.str y t) news) := by
  intro mean mg mb dp un gd cn cs a ccd cl outer A₀ base h₀ L m s Q E B F X N T hk hd hu ret
  refine text_spec w news x t hx mean mg mb dp un gd cn cs a ccd cl outer A₀ base h₀ L m s Q E B F X N T hk hd hu fun t' => ?_
  cases hq : textF x with
  | none => exact ret.1 hq
  | some y => exact ret.2 y t' hq
theorem datAll_at {news : Ledger} {α : Type} {f : α → Dat} : ∀ {ps : List α} {vs : List Value}, DatAll news vs (ps.map f) → ∀ {j : Nat} {v : Value}, vs[j]? = some v → ∃ p, ps[j]? = some p ∧ DatIn news v (f p)
  | [], _, h, j, v, e => by cases h; cases e
  | p :: ps, _, h, j, v, e => by
    cases h with
    | cons h1 h2 =>
      cases j with
      | zero => cases e; exact ⟨p, rfl, h1⟩
      | succ j => exact datAll_at h2 e
/-- the contract of a call that may raise BasicError('SN', 10) -/
noncomputable def DoesX (w : World) (f : Addr) (d : Nat) (vs : List Value) (news keep : Ledger) (R : (Value → Ledger → Prop) → Prop) (P : Prop) : Prop :=
  ∀ (mean : ExcName → Option Value) (mg mb : PySem.Str → Option Value) (dp un : Nat) (gd : Option (List Code)) (cn : PySem.Str) (cs : Scope) (a : Addr) (ccd : Value) (cl : List (PySem.Str × Addr)) (outer : List Env) (A₀ : Around) (base h₀ : Heap) (L : Addr) (m : PySem.Str → Option Value) (s : Shared) (Q E : Value → Shared → Prop),
    Below A₀ base outer h₀ → Fr h₀ L s.heap m → (MineH.K w.params).In h₀ → News h₀ L s.heap news → Top topProg topLs mean mg mb h₀ → cs.kind = .function →
    dp + d < recursionLimit → un + 8 * d < cLine →
    R (fun v n => ∀ h' tk', Fr h₀ L h' m → News h₀ L h' n → Q v { s with heap := h', toks := tk' }) →
    (P → ∀ G e t D oD h' tk' u u2, Fr h₀ L G m → RaisedS base G (envX cn cs L a ccd cl :: outer) e (.ref 41) t [.str (Str.ofString "SN") u] ((D, oD) :: keep) h' → HasD e (some D) h' → G.UpToSlots h' → DictO oD (berrM (.str (Str.ofString "SN") u) (.int 10 u2)) → E (.ref e) { s with heap := h', toks := tk' }) →
    wpAny (model PySem.Challenge.rw_pf0007_01.row.prog w) (ktrTop dp un gd cn cs L a ccd cl outer) (call (.ref f) vs) Q E s
theorem kw_W16_4 : True := by
  k_with "compareOp Is" => (k_here; refine is_none_no (by with_reducible assumption) (by with_reducible assumption) ?_)
  k_with "call ref" => (k_here; k_dflt (refine' Does.use (text_spec2 _ _ _ _ ?s1) ?k1 ?k2 ?k3 ?k4 ?k5 ?kK ?kd ?ku ?_); walk_at "USE"; (case s1 => with_reducible assumption); refine And.intro (fun hz9 h9 tk9 F9 N9 => ?_) (fun y9 t9 hy9 h9 tk9 F9 N9 => ?_); (all_goals ((try dsimp only); (try k_fold))))
  k_with "call ref" => (k_here; k_dflt (refine' berr_call _ _ _ _ _ _ ?k1 ?k2 ?k3 ?k4 ?k5 ?kK ?kd ?ku ?_); walk_at "USE"; intro e9 tt9 D9 oD9 h9 tk9 F9 N9 d9 m91 m92 m93; (try dsimp only); (try k_fold))
  trivial
theorem mem_t2 {a b p : Addr × Obj} {r : Ledger} (h : p ∈ r) : p ∈ a :: b :: r := .tail _ (.tail _ h)
theorem kw_W16_5 : True := by
  k_with "call ref" => (k_here; k_dflt (refine' Does.use (vof_spec _ _ _ _ _ _ _ hx (LamIn.mono hL (fun _ => mem_t2))) ?k1 ?k2 ?k3 ?k4 ?k5 ?kK ?kd ?ku ?_); walk_at "USE"; refine And.intro (fun hzv9 h9 tk9 F9 N9 => ?_) (fun dv9 hd9v hn9v v9 tv9 hvn9 hv9 ov9 h9 tk9 F9 N9 => ?_); (all_goals ((try simp only [List.cons_append] at N9); (try dsimp only); (try k_fold))))
  trivial
theorem readitem_spec (w : World) (rest : Ledger) (x d : Addr) (es : List DictEntry) (n : Nat) (il ol dl : Addr) (row : PySem.Str) (rt : Tok) (i : Int) (st t1 : Tok) (f : Addr) (dvs : List Value) (dn : Nat) (ps : List PySem.Str) (p k : PySem.Str)
   (W : WE es il ol dl row rt i st) (hd' : ∀ p ∈ rest, p.1 ≠ d) (hx' : ∀ p ∈ rest, p.1 ≠ x) (dx : @LT.lt Nat _ d x) (hdl : (dl, listOf dvs.toArray dn) ∈ rest) (hps : DatAll rest dvs (ps.map pD)) (hi0 : 0 ≤ i) (hp : ps[i.toNat]? = some p) (hpl : p.length ≤ 1000) (hpn : ps.length ≤ 100)
   (hx : (k == PySem.Str.ofString "text") = false → (p == PySem.Str.ofString "") = false → NumT p) (hL : LamIn rest f) :
   DoesX w 155 8 [.ref x, .str k t1, .ref f] ((x, instObj 216 d) :: (d, dictOf es n) :: rest) ((x, instObj 216 d) :: (d, dictOf es n) :: rest)
     (fun K => ∀ dv, ReadV p k (some dv) → ∀ v es' n' st' tl, v ≠ .none → DIn tl v dv → (∀ q ∈ rest, ∀ p ∈ tl, q.1 < p.1) → (∀ p ∈ tl, x < p.1) → WE es' il ol dl row rt (i + 1) st' → K v ((x, instObj 216 d) :: (d, dictOf es' n') :: (rest ++ tl))) (ReadV p k none) := by
  intro mean mg mb dp un gd cn cs a ccd cl outer A₀ base h₀ L m s Q E B F X N T hk hd hu ret raise
  have hlen := DatAll.length hps
  rw [List.length_map] at hlen
  have hil : i.toNat < ps.length := (List.getElem?_eq_some_iff.mp hp).1
  refine wpAny_call ?_
  k_dflt (refine' code_def (binds := [(Str.ofString "world", .ref x), (Str.ofString "kind", .str k t1), (Str.ofString "read_number", .ref f)]) B F X N T rfl rfl hk ?k6 ?k7 ?k8 ?k9 ?kB ?_ ?c2 ?c3 ?c4 ?c5)
  walk_at "ENTER"
  intro g' L' h' FG' F' N' B' X' T'
  k_fold
  k_steps
  unfold Hold
  refine pick_v (by k_asm) (.tail _ (.tail _ hdl)) hi0 (by omega) (by omega) (by with_unfolding_all rfl) (fun j v hj hv => ?_)
  obtain ⟨p', hp', hv'⟩ := datAll_at hps hv
  obtain rfl : j = i.toNat := by omega
  rw [hp] at hp'
  cases hp'
  unfold pD at hv'
  cases hv' with
  | @tuple ax vx nx _ hmx hvx =>
  cases hvx with
  | cons hv1 hvx =>
  cases hvx with
  | cons hv2 hvx =>
  cases hvx
  cases hv1 with
  | int _ tz =>
  cases hv2 with
  | str _ ty =>
  k_steps
  · unfold Hold
    rw [arm_exec_Raise]
    obtain ⟨nm, q, bs, sn, sub, ab, col, dd, k0, k1, k2, k3, k5, hC⟩ := clsK w.params
    refine wpAny_bind (wpAny_standAt (raise_made (C := 41) (nm := nm) (q := q) (N := 40) (bs := bs) (bm := excB) (hdct := true) (sn := sn) (sub := sub) (ab := ab) (col := col) (dd := dd) (k0 := k0) (k1 := k1) (k2 := k2) (k3 := k3) (k5 := k5) (newId := "Exception.__new__") (by decide) rfl ?_))
    show wpAny _ _ (eval _ _ >>= _) _ _ _
    refine wpAny_bind ?_
    k_steps
    refine wpAny_bind (wpAny_standAt (wpAny_pure ⟨e9, tt9, D9, rfl, (X'.keeps F9.keep) _ _ hC, (N9 _ (.head _)).1, ?_⟩))
    refine leave_berr B' F9 (cb_drop N9 (sub_cons (.head _) (sub_cons (.tail _ (.tail _ (.head _))) (sub_cons (.tail _ (.head _)) (sub_tail (sub_tail (sub_tail sub_refl))))))) (List.forall_mem_cons.mpr ⟨⟨Nat.ne_of_gt (Nat.lt_trans m91 m92), Nat.ne_of_gt m92⟩, fun p hp => ⟨Nat.ne_of_lt (m93 p hp), Nat.ne_of_lt (Nat.lt_trans (m93 p hp) m91)⟩⟩) ?_
    intro h9 R9 H9 U9
    exact raise (.textNo (by with_reducible assumption) hz9) g' e9 tt9 D9 oD9 h9 _ _ _ FG' R9 H9 U9 d9
  · exact ret _ (.text (by with_reducible assumption) hy9) _ _ _ _ [] (by intro e; cases e) (.str y9 _) (fun _ _ _ h => nomatch h) (fun _ h => nomatch h) (WE.setSpot W) _ _ (by k_asm) (by rw [List.append_nil]; k_asm)
  · unfold Hold
    rw [arm_exec_Raise]
    obtain ⟨nm, q, bs, sn, sub, ab, col, dd, k0, k1, k2, k3, k5, hC⟩ := clsK w.params
    refine wpAny_bind (wpAny_standAt (raise_made (C := 41) (nm := nm) (q := q) (N := 40) (bs := bs) (bm := excB) (hdct := true) (sn := sn) (sub := sub) (ab := ab) (col := col) (dd := dd) (k0 := k0) (k1 := k1) (k2 := k2) (k3 := k3) (k5 := k5) (newId := "Exception.__new__") (by decide) rfl ?_))
    show wpAny _ _ (eval _ _ >>= _) _ _ _
    refine wpAny_bind ?_
    k_steps
    refine wpAny_bind (wpAny_standAt (wpAny_pure ⟨e9, tt9, D9, rfl, (X'.keeps F9.keep) _ _ hC, (N9 _ (.head _)).1, ?_⟩))
    refine leave_berr B' F9 (cb_drop N9 (sub_cons (.head _) (sub_cons (.tail _ (.tail _ (.head _))) (sub_cons (.tail _ (.head _)) (sub_tail (sub_tail (sub_tail sub_refl))))))) (List.forall_mem_cons.mpr ⟨⟨Nat.ne_of_gt (Nat.lt_trans m91 m92), Nat.ne_of_gt m92⟩, fun p hp => ⟨Nat.ne_of_lt (m93 p hp), Nat.ne_of_lt (Nat.lt_trans (m93 p hp) m91)⟩⟩) ?_
    intro h9 R9 H9 U9
    exact raise (.valNo (by with_reducible assumption) hzv9) g' e9 tt9 D9 oD9 h9 _ _ _ FG' R9 H9 U9 d9
  · exact ret _ (.val (by with_reducible assumption) hd9v hn9v) _ _ _ _ tv9 hvn9 hv9 (fun q hq p hp => ov9 q (mem_t2 hq) p hp) (fun p hp => ov9 (x, _) (.head _) p hp) (WE.setSpot W) _ _ (by k_asm) (by k_asm)
end Mine
end
section
namespace Mine
theorem kw_W17_0 : True := by
  k_with_none
  w_top off
  k_with "exec Assign" => walk_at "FOLD"
  k_with "exec Return some" => walk_at "FOLD"
  k_with "exec If" => walk_at "FOLD"
  k_with "exec AugAssign" => walk_at "FOLD"
  k_with "exec Expr" => walk_at "FOLD"
  k_with "eval Tuple" => walk_at "FOLD"
  k_with "eval List" => walk_at "FOLD"
  k_with "eval BinOp" => walk_at "FOLD"
  k_with "eval Call" => walk_at "FOLD"
  k_with "eval Subscript" => walk_at "FOLD"
  k_with "eval IfExp" => walk_at "FOLD"
  k_with "isTrue BoolOp" => walk_at "FOLD"
  k_with "isTrue Compare" => walk_at "FOLD"
  k_with "eval Call Attribute" => walk_at "FOLD"
  k_with "FOLD" => ((fail_if_success (fail_if_success k_fold)); refine (let qk := _; let ek := _; (?_ : wpAny _ _ _ qk ek _)))
  k_with "execs cons" => (refine wp_tk s ?_; intro _)
  k_with "ENTER" => ((case k6 => k_is); (case k7 => k_is); (case k8 => ktr_room); (case k9 => exact BindsTo.of_eq rfl); (case c5 => decide); (case kB => exact locs rfl); (case c2 => exact rfl); (case c3 => exact rfl); (case c4 => exact rfl); k_whole)
  k_with "LpPost" => (dsimp only [LpPost])
  k_with "USE" => ((case k1 => k_asm); (case k2 => k_asm); (case k3 => k_asm); (case k4 => k_asm); (case k5 => k_asm); (case kK => first | exact rfl | assumption); (case kd => first | exact dp_lt (by with_reducible assumption) (by decide) | ktr_room); (case ku => first | exact un_lt (by with_reducible assumption) (by decide) | ktr_units))
  k_with "SIDE" => first | assumption | omega | (split <;> omega)
  k_with "call builtin:str.find" => (k_here; refine find_r (by decide +kernel) (by omega) ?_; intro _)
  k_with "SUB" => ((try simp only [List.cons_append, List.nil_append]); repeat (first | with_reducible exact sub_refl | with_reducible exact sub_nil | ((with_reducible refine sub_cons ?hm ?_); (case hm => k_mem)) | with_reducible refine sub_tail ?_ | with_reducible refine sub_apR ?_))
  k_with "WhlIf" => (refine whlIf_dec ?_ ?_ <;> intro _ <;> try (exfalso; omega))
  k_with "call builtin:abs" => (k_here; refine abs_z ?_; intro z9 _ _ _ z91 z92)
  k_with "binaryOp Mod int int" => (k_here; refine mod_p (by omega) ?_)
  k_with "binaryOp FloorDiv int int" => (k_here; refine div_p (by omega) (by omega) ?_)
  k_with "WEANY" => first | with_reducible assumption | exact WE.setRow (by with_reducible assumption) | exact WE.setInputs (by with_reducible assumption) | exact WE.setSpot (by with_reducible assumption) | exact WE.setData (by with_reducible assumption)
  k_with "WEGET" => first | exact WE.inputs (by with_reducible assumption) | exact WE.out (by with_reducible assumption) | exact WE.row (by with_reducible assumption) | exact WE.data (by with_reducible assumption) | exact WE.spot (by with_reducible assumption) | exact (putL_found (WE.row (by with_reducible assumption))).2.1 | exact (putL_found (WE.row (by with_reducible assumption))).2.2 _ _ (by decide +kernel) (WE.out (by with_reducible assumption)) | exact (putL_found (WE.row (by with_reducible assumption))).2.2 _ _ (by decide +kernel) (WE.inputs (by with_reducible assumption))
  k_with "getAttr ref" => (k_here; k_dflt (refine' get_own ?k1 ?k2 ?k3 ?k4 ?k5 ?k6 ?k7 ?k8 ?k9 ?_; (case k1 => k_asm); (case k2 => k_asm); (case k3 => k_inst); (case k4 => k_is); (case k5 => k_is); (case k6 => k_is); (case k7 => k_is); (case k8 => walk_at "WEGET"); (case k9 => k_handed); k_whole))
  k_with "WELEN" => exact Nat.le_trans (Nat.le_of_eq (putL_found (by walk_at "WEGET")).1) (Nat.le_trans (WE.len (by with_reducible assumption)) (by decide))
  k_with "setAttr ref" => (k_here; k_dflt (refine' set_dict ?k1 ?k2 ?k3 ?k4 ?k5 ?k6 ?k7 ?k8 ?k9 ?k10 ?k11 ?k12 ?k13 ?_; (case k1 => k_asm); (case k2 => k_asm); (case k3 => k_asm); (case k4 => k_inst); (case k5 => exact rfl); (case k6 => k_is); (case k7 => k_is); (case k8 => k_is); (case k9 => k_is); (case k10 => exact we_some (by walk_at "WEGET")); (case k11 => exact rfl); (case k12 => k_upd); (case k13 => walk_at "WELEN"); k_whole); intro h' F' N'; (try k_sweep))
  trivial
theorem kw_W17_m0 : True := by
  k_with "KALL" => (with_reducible assumption)
  trivial
theorem kw_W17_1 : True := by
  k_with "call builtin:list.append" => (k_here; (with_reducible show wpAny _ _ (call (Value.builtin _) [Value.ref _, _]) _ _ _); k_dflt (refine' append_K ?k1 ?k2 ?k3 ?_ ?z; (case k1 => k_asm); (case k2 => k_asm); (case k3 => k_upd); (case z => with_reducible assumption); k_whole); intro h' F' N'; (try k_sweep))
  k_with "call builtin:len" => (k_here; (with_reducible show wpAny _ _ (call (Value.builtin "len") [Value.ref _]) _ _ _); refine len_L (by k_asm) (by k_dflt k_mem) (by first | omega | ((simp only [List.length_cons, List.length_nil]); omega)) ?_; (try simp only [List.length_cons, List.length_nil]))
  trivial
theorem kw_W17_m1 : True := by
  k_with "KMEM" => (first | with_reducible assumption | (change (_ : Addr × Obj) ∈ (_ : List (Addr × Obj)); with_reducible assumption) | exact List.mem_append.mpr (.inl (by with_reducible assumption)) | (refine List.mem_append.mpr (.inr ?_); k_mem))
  trivial
theorem kw_W17_2 : True := by
  k_with "exec For Name Name cons nil" => (refine hold ?_)
  k_with "newList" => (k_here; k_dflt (refine' newList_K ?k1 ?k2 ?_; (case k1 => k_asm); (case k2 => k_asm); k_whole); intro fn h' F' N' lfn9; (try k_lt lfn9); (try k_sweep))
  k_with "call ref" => (refine hold ?_)
  trivial
/-- what _law_read reads of the pieces -/
inductive ReadL : List PySem.Str → List PySem.Str → List Dat → Bool → Prop
  | nil {ps} : ReadL ps [] [] true
  | bad {p k ps ks} : ReadV p k none → ReadL (p :: ps) (k :: ks) [] false
  | step {p k d ps ks ds b} : ReadV p k (some d) → ReadL ps ks ds b → ReadL (p :: ps) (k :: ks) (d :: ds) b
@[reducible] noncomputable def qualL (nm : PySem.Str) : PySem.Str := (nm ++ (".<locals>." : PySem.Str)) ++ ("<lambda>" : PySem.Str)
noncomputable def posR : Pos := { line := 240, col := 48, endLine := 240, endCol := 84 }
theorem lr_perm1 {a b c e : Addr × Obj} {tb tv rs : Ledger} : ∀ p ∈ tb ++ (a :: b :: (tv ++ c :: e :: rs)), p ∈ a :: b :: (tv ++ c :: e :: (tb ++ rs)) := by
  intro p hp
  simp only [List.mem_append, List.mem_cons] at hp ⊢
  rcases hp with h | h | h | h | h | h | h <;> simp [h]
theorem lr_perm2 {a b c e f : Addr × Obj} {tb tv rs : Ledger} : ∀ p ∈ c :: e :: (f :: (tb ++ (a :: b :: (tv ++ rs)))), p ∈ f :: (tb ++ (a :: b :: (tv ++ c :: e :: rs))) := by
  intro p hp
  simp only [List.mem_append, List.mem_cons] at hp ⊢
  rcases hp with h | h | h | h | h | h | h | h <;> simp [h]
theorem lr_cat {P : Addr × Obj → Prop} {a b : Addr × Obj} {tv rs : Ledger} (ha : P a) (hb : P b) (hv : ∀ p ∈ tv, P p) (hr : ∀ p ∈ rs, P p) : ∀ p ∈ a :: b :: (tv ++ rs), P p := by
  intro p hp
  simp only [List.mem_append, List.mem_cons] at hp
  rcases hp with rfl | rfl | h | h
  · exact ha
  · exact hb
  · exact hv p h
  · exact hr p h
theorem lr_perm5 {a b c e f g i j : Addr × Obj} {tb tv rs : Ledger} : ∀ p ∈ g :: b :: (tv ++ c :: e :: (tb ++ rs)), p ∈ g :: i :: j :: c :: e :: (f :: (tb ++ (a :: b :: (tv ++ rs)))) := by
  intro p hp
  simp only [List.mem_append, List.mem_cons] at hp ⊢
  rcases hp with h | h | h | h | h | h | h <;> simp [h]
theorem berrM_code (c l : Value) : berrM c l (Str.ofString "code") = some c := by
  unfold berrM
  rw [if_neg (by decide +kernel), if_pos rfl]
theorem lr_perm3 {a b c e f : Addr × Obj} {tb tv rs tl : Ledger} : ∀ p ∈ b :: a :: c :: e :: ((tb ++ (tv ++ rs)) ++ tl), p ∈ c :: e :: ((f :: (tb ++ (a :: b :: (tv ++ rs)))) ++ tl) := by
  intro p hp
  simp only [List.mem_append, List.mem_cons] at hp ⊢
  rcases hp with h | h | h | h | (h | h | h) | h <;> simp [h]
theorem lr_perm4 {a b c e : Addr × Obj} {tb tv rs tl : Ledger} : ∀ p ∈ [a] ++ (b :: ((tv ++ tl) ++ c :: e :: (tb ++ rs))), p ∈ b :: a :: c :: e :: ((tb ++ (tv ++ rs)) ++ tl) := by
  intro p hp
  simp only [List.mem_append, List.mem_cons, List.not_mem_nil, or_false] at hp ⊢
  rcases hp with h | h | (h | h) | h | h | h | h <;> simp [h]
inductive LrI (rest : Ledger) (x d : Addr) (il ol dl : Addr) (row : PySem.Str) (rt : Tok) (ps ks : List PySem.Str) (ts : TabSt) (fn I : Addr) (c : List PySem.Str × List PySem.Str × List Dat) (items : List Itm) (m1 : PySem.Str → Option Value) (nx : Ledger) : Prop
  | mk (kvs' fvs : List Value) (n1 : Nat) (tlV : Ledger) (es1 : List DictEntry) (n2 : Nat) (st1 : Tok) (ts1 : TabSt) (h0 : items = kvs'.map .val) (h1 : DatAll rest kvs' (c.2.1.map Dat.str)) (h2 : c.1 = ps.drop c.2.2.length) (h3 : c.2.1 = ks.drop c.2.2.length) (h4 : nx = (fn, listOf fvs.toArray n1) :: (tlV ++ (x, instObj 216 d) :: (d, dictOf es1 n2) :: (tabL 243 posR ts1 ++ rest))) (h5 : DatAll (nought :: tlV) fvs c.2.2) (h6 : (∀ p ∈ tlV, I < p.1)) (h7 : WE es1 il ol dl row rt c.2.2.length st1) (h8 : TabOk (qualL "_law_read") ts1) (h9 : (ts1 = ts ∨ ∀ c' oc, ts1 = .made c' oc → I < c')) (h10 : Has m1 [(Str.ofString "found", .ref fn), (Str.ofString "world", .ref x)]) (h11 : (∀ ds b, ReadL c.1 c.2.1 ds b → ReadL ps ks (c.2.2 ++ ds) b)) : LrI rest x d il ol dl row rt ps ks ts fn I c items m1 nx
theorem LrI.inv_nil {rest : Ledger} {x d : Addr} {il ol dl : Addr} {row : PySem.Str} {rt : Tok} {ps ks : List PySem.Str} {ts : TabSt} {fn I : Addr} {c : List PySem.Str × List PySem.Str × List Dat} {m1 : PySem.Str → Option Value} {nx : Ledger} {P : Ledger → Prop} (h : LrI rest x d il ol dl row rt ps ks ts fn I c [] m1 nx)
    (k : ∀ (fvs : List Value) (n1 : Nat) (tlV : Ledger) (es1 : List DictEntry) (n2 : Nat) (st1 : Tok) (ts1 : TabSt), DatAll (nought :: tlV) fvs c.2.2 → WE es1 il ol dl row rt c.2.2.length st1 → TabOk (qualL "_law_read") ts1 → (ts1 = ts ∨ ∀ c' oc, ts1 = .made c' oc → I < c') → Has m1 [(Str.ofString "found", .ref fn), (Str.ofString "world", .ref x)] → ReadL ps ks c.2.2 true → P ((fn, listOf fvs.toArray n1) :: (tlV ++ (x, instObj 216 d) :: (d, dictOf es1 n2) :: (tabL 243 posR ts1 ++ rest)))) : P nx := by
  obtain ⟨ps', ks', done⟩ := c
  obtain ⟨kvs', fvs, n1, tlV, es1, n2, st1, ts1, hit, hkv, hp1, hk1, rfl, hdone, hgt, W1, hT1, hT2, hm, hR⟩ := h
  simp only at hp1 hk1 hdone W1 hR hkv
  have hl1 := DatAll.length hkv
  have hl2 := congrArg List.length hit
  simp only [List.length_map, List.length_nil] at hl1 hl2
  have hk0 : ks' = [] := List.eq_nil_of_length_eq_zero (by omega)
  subst hk0
  have hF := hR [] true .nil
  rw [List.append_nil] at hF
  exact k fvs n1 tlV es1 n2 st1 ts1 hdone W1 hT1 hT2 hm hF
theorem LrI.inv_cons {rest : Ledger} {x d : Addr} {il ol dl : Addr} {row : PySem.Str} {rt : Tok} {ps ks : List PySem.Str} {ts : TabSt} {fn I : Addr} {c : List PySem.Str × List PySem.Str × List Dat} {it : Itm} {r : List Itm} {m1 : PySem.Str → Option Value} {nx : Ledger} {P : Itm → List Itm → Ledger → Prop} (h : LrI rest x d il ol dl row rt ps ks ts fn I c (it :: r) m1 nx) (hpk : ps.length = ks.length)
    (k : ∀ (kk p0 : PySem.Str) (tk2 : Tok) (ks' ps' : List PySem.Str) (kvs' fvs : List Value) (n1 : Nat) (tlV : Ledger) (es1 : List DictEntry) (n2 : Nat) (st1 : Tok) (ts1 : TabSt), DatAll rest kvs' (ks'.map Dat.str) → p0 :: ps' = ps.drop c.2.2.length → kk :: ks' = ks.drop c.2.2.length → DatAll (nought :: tlV) fvs c.2.2 → (∀ p ∈ tlV, I < p.1) → WE es1 il ol dl row rt c.2.2.length st1 → TabOk (qualL "_law_read") ts1 → (ts1 = ts ∨ ∀ c' oc, ts1 = .made c' oc → I < c') → Has m1 [(Str.ofString "found", .ref fn), (Str.ofString "world", .ref x)] → (∀ ds b, ReadL (p0 :: ps') (kk :: ks') ds b → ReadL ps ks (c.2.2 ++ ds) b) → ps[c.2.2.length]? = some p0 → ks[c.2.2.length]? = some kk → c.2.2.length + ks'.length + 1 = ks.length →
      P (.val (.str kk tk2)) (kvs'.map .val) ((fn, listOf fvs.toArray n1) :: (tlV ++ (x, instObj 216 d) :: (d, dictOf es1 n2) :: (tabL 243 posR ts1 ++ rest)))) : P it r nx := by
  obtain ⟨ps', ks', done⟩ := c
  obtain ⟨kvs', fvs, n1, tlV, es1, n2, st1, ts1, hit, hkv, hp1, hk1, rfl, hdone, hgt, W1, hT1, hT2, hm, hR⟩ := h
  simp only at hp1 hk1 hdone W1 hR hkv
  cases kvs' with
  | nil => simp at hit
  | cons kv kvs' =>
  cases ks' with
  | nil => cases hkv
  | cons kk ks' =>
  have e : it = .val kv ∧ r = kvs'.map .val := by simpa using hit
  obtain ⟨rfl, rfl⟩ := e
  cases hkv with
  | cons hk0 hkv =>
  cases hk0 with
  | str _ tk2 =>
  have hlk := congrArg List.length hk1
  rw [List.length_drop, List.length_cons] at hlk
  cases ps' with
  | nil =>
    have := congrArg List.length hp1
    rw [List.length_drop, List.length_nil] at this
    omega
  | cons p0 ps' =>
  have hp0 : ps[done.length]? = some p0 := by
    have := congrArg (fun l => l[0]?) hp1
    simpa using this.symm
  have hkk0 : ks[done.length]? = some kk := by
    have := congrArg (fun l => l[0]?) hk1
    simpa using this.symm
  exact k kk p0 tk2 ks' ps' kvs' fvs n1 tlV es1 n2 st1 ts1 hkv hp1 hk1 hdone hgt W1 hT1 hT2 hm hR hp0 hkk0 (by show done.length + ks'.length + 1 = ks.length; omega)
theorem lread_spec (w : World) (rest : Ledger) (x d : Addr) (es : List DictEntry) (n : Nat) (il ol dl kl : Addr) (row : PySem.Str) (rt st : Tok) (dvs kvs : List Value) (dn kn : Nat) (ps ks : List PySem.Str) (ts : TabSt)
   (W : WE es il ol dl row rt 0 st) (hd' : ∀ p ∈ rest, p.1 ≠ d) (hx' : ∀ p ∈ rest, p.1 ≠ x) (dx : @LT.lt Nat _ d x) (hdl : (dl, listOf dvs.toArray dn) ∈ rest) (hps : DatAll rest dvs (ps.map pD)) (hkl : (kl, listOf kvs.toArray kn) ∈ rest) (hks : DatAll rest kvs (ks.map Dat.str)) (hkn : ks.length ≤ 3)
   (hpk : ps.length = ks.length) (hpl : ∀ p ∈ ps, p.length ≤ 1000) (hx : ∀ (i : Nat) p k, ps[i]? = some p → ks[i]? = some k → (k == PySem.Str.ofString "text") = false → (p == PySem.Str.ofString "") = false → NumT p)
   (hTd : ∀ p ∈ tabL 243 posR ts, p.1 < d) (hP : ∀ p ∈ rest, p.1 ≠ 243) (hT : TabOk (qualL "_law_read") ts)
   {mean : ExcName → Option Value} {mg mb : PySem.Str → Option Value} {dp un : Nat} {gd : Option (List Code)} {cn : PySem.Str} {cs : Scope} {a : Addr} {ccd : Value} {cl : List (PySem.Str × Addr)} {A₀ : Around} {base h₀ : Heap} {L : Addr} {m : PySem.Str → Option Value} {s : Shared} {Q E : Value → Shared → Prop}
   (B : Below A₀ base [] h₀) (F : Fr h₀ L s.heap m) (X : (MineH.K w.params).In h₀) (N : News h₀ L s.heap ((x, instObj 216 d) :: (d, dictOf es n) :: (tabL 243 posR ts ++ rest))) (T : Top topProg topLs mean mg mb h₀) (XB : (MineH.K w.params).In base) (TB : Top topProg topLs mean mg mb base) (C : CodeHd h₀ 247 243) (hk : cs.kind = .function)
   (hdp : dp + 12 < recursionLimit) (hu : un + 8 * 12 < cLine)
   (ret : ∀ ds b, ReadL ps ks ds b → ∀ tp fl fvs fn tl es' n' st' tc ts', DatAll (nought :: tl) fvs ds → WE es' il ol dl row rt ds.length st' → TabOk (qualL "_law_read") ts' → (ts' = ts ∨ ∀ c' oc, ts' = .made c' oc → ∀ p ∈ (x, instObj 216 d) :: (d, dictOf es n) :: (tabL 243 posR ts ++ rest), p.1 < c') → ∀ h' tk', Fr h₀ L h' m → News h₀ L h' ((tp, tupO [.ref fl, .str (if b then Str.ofString "" else Str.ofString "SN") tc]) :: (fl, listOf fvs.toArray fn) :: (tl ++ (x, instObj 216 d) :: (d, dictOf es' n') :: (tabL 243 posR ts' ++ rest))) → Q (.ref tp) { s with heap := h', toks := tk' }) :
   wpAny (model PySem.Challenge.rw_pf0007_01.row.prog w) (ktrTop dp un gd cn cs L a ccd cl []) (call (.ref 248) [.ref x, .ref kl]) Q E s := by
  refine wpAny_call ?_
  k_dflt (refine' defS_cells (binds := [(Str.ofString "world", .ref x), (Str.ofString "kinds", .ref kl)]) B F X N T rfl rfl hk ?k6 ?k7 ?k8 ?k9 ?kB ?_ ?c2 ?c3 ?c4 ?c5)
  case k6 => k_is
  case k7 => k_is
  case k8 => ktr_room
  case k9 => exact BindsTo.of_eq rfl
  case kB => exact locs rfl
  case c2 => exact rfl
  case c3 => exact rfl
  case c4 => exact rfl
  case c5 => decide
  have hln : ps.length ≤ 3 := by omega
  have hdx : ∀ p ∈ tabL 243 posR ts, p.1 ≠ x := fun p hp => Nat.ne_of_lt (Nat.lt_trans (hTd p hp) dx)
  obtain ⟨tps, htp⟩ := tab_mem 243 posR ts
  have P0d : @LT.lt Nat _ 243 d := hTd _ htp
  intro g' L' h' FG' F' N' B' X' T' D'
  (try dsimp only)
  k_fold
  k_steps
  unfold Hold
  have C' := C.keeps FG'.keep
  have P0n : @LT.lt Nat _ 243 fn := ktn_ltOf lfn9.2.2 _ (List.mem_append.mpr (.inl htp))
  (with_reducible rename Fr _ _ _ _ => F9)
  refine For_turns F9 ?_
  k_steps
  (with_reducible rename Fr _ _ _ _ => F9)
  (with_reducible rename News _ _ _ _ => N9)
  refine iter_listTurns rfl F9 N9 (by k_dflt k_mem) rfl rfl ?_
  intro I lI
  have hTX : ∀ ts1 : TabSt, (ts1 = ts ∨ ∀ c' oc, ts1 = .made c' oc → I < c') → (ts1 = ts ∨ ∀ c' oc, ts1 = .made c' oc → ∀ p ∈ (x, instObj 216 d) :: (d, dictOf es n) :: (tabL 243 posR ts ++ rest), p.1 < c') := fun ts1 h => h.imp id fun h c' oc e p hp => Nat.lt_trans (lI p (.tail _ hp)) (h c' oc e)
  have hE := (show PassesOwn _ _ _ ek from by passes_own)
  refine items_ind (LrI rest x d il ol dl row rt ps ks ts fn I) ?nil ?cons (kvs.map .val) (ps, ks, []) _ _ ?start
  case start => exact ⟨kvs, [], 0, [], es, n, st, ts, rfl, hks, rfl, rfl, rfl, .nil, (fun _ h => nomatch h), W, hT, .inl rfl, ⟨rfl, rfl, trivial⟩, fun ds b h => h⟩
  case nil =>
    rintro c m1 nx hI
    refine hI.inv_nil fun fvs n1 tlV es1 n2 st1 ts1 hdone W1 hT1 hT2 hm hF => ?_
    rw [show m1 = fmu _ m1 from fmu_eq hm]
    refine ItemsRest.zero (fun h2 tk2 F2 N2 => ?_)
    k_steps
    exact ret c.2.2 true hF _ fn fvs n1 tlV es1 n2 st1 _ ts1 hdone W1 hT1 (hTX _ hT2) _ _ (by k_asm) (by k_asm)
  case cons =>
    rintro c it r m1 nx hI IH
    revert IH
    refine LrI.inv_cons (P := fun it r nx => (∀ c' m' news', LrI rest x d il ol dl row rt ps ks ts fn I c' r m' news' → ItemsRest _ _ _ _ _ _ _ _ _ _ _ _ r m' news') → ItemsRest _ _ _ _ _ _ _ _ _ _ _ _ (it :: r) m1 nx) hI hpk ?_
    intro kk p0 tk2 ks' ps' kvs' fvs n1 tlV es1 n2 st1 ts1 hkv hp1 hk1 hdone hgt W1 hT1 hT2 hm hR hp0 hkk0 hlk IH
    rw [show m1 = fmu _ m1 from fmu_eq hm]
    refine ItemsRest.val (fun h2 tk3 F2 => ?_)
    ktu_objs
    k_steps
    have P0I : @LT.lt Nat _ 243 I := Nat.lt_trans P0n (lI _ (.head _))
    (with_reducible rename News _ _ _ _ => N9)
    refine lam_make (ts := ts1) (news := (I, _) :: (fn, listOf fvs.toArray n1) :: (tlV ++ (x, instObj 216 d) :: (d, dictOf es1 n2) :: rest)) (P := 243) (by k_asm) (cb_drop (by k_asm) lr_perm1) T' C' hT1 (lr_cat (Nat.ne_of_gt P0I) (Nat.ne_of_gt P0n) (fun p hp => Nat.ne_of_gt (Nat.lt_trans P0I (hgt p hp))) (List.forall_mem_cons.mpr ⟨Nat.ne_of_gt (Nat.lt_trans P0d dx), List.forall_mem_cons.mpr ⟨Nat.ne_of_gt P0d, hP⟩⟩)) rfl rfl ?_
    intro f c' oc pm ctv h3 tk3 F3 N3 hT3 lf lc
    k_steps
    unfold Hold
    have fnI : @LT.lt Nat _ fn I := lI _ (.head _)
    have xn : @LT.lt Nat _ x fn := lfn9.1
    have hcc : @LT.lt Nat _ c' d ∨ @LT.lt Nat _ I c' := by
      rcases lc with lc | lc
      · rcases hT2 with h2 | h2
        · exact .inl (hTd (c', oc) (by rw [← h2, lc]; exact .tail _ (.head _)))
        · exact .inr (h2 c' oc lc)
      · exact .inr (lc _ (List.mem_append.mpr (.inr (.head _))))
    have htabD : ∀ p ∈ tabL 243 posR (.made c' oc), @LT.lt Nat _ p.1 d ∨ @LT.lt Nat _ I p.1 := fun p hp => by
      rcases List.mem_cons.mp hp with rfl | hp
      · exact .inl P0d
      · rw [List.mem_singleton.mp hp]; exact hcc
    have hmem : ∀ q ∈ tabL 243 posR (.made c' oc) ++ ((I, _) :: (fn, listOf fvs.toArray n1) :: (tlV ++ (x, instObj 216 d) :: (d, dictOf es1 n2) :: rest)), q.1 < f := lf
    have fI : @LT.lt Nat _ I f := lf _ (List.mem_append.mpr (.inr (.head _)))
    have big : ∀ (b : Nat), @LT.lt Nat _ b I → (@LT.lt Nat _ d b ∨ b = d) → (∀ p ∈ rest, p.1 ≠ b) → ∀ p ∈ tabL 243 posR (.made c' oc) ++ (tlV ++ rest), p.1 ≠ b := fun b h1 h2 h3 p hp e => by
      have e' : @Eq Nat p.1 b := e
      rcases List.mem_append.mp hp with hp | hp
      · rcases htabD p hp with h | h <;> omega
      · rcases List.mem_append.mp hp with hp | hp
        · have h : @LT.lt Nat _ I p.1 := hgt p hp
          omega
        · exact h3 p hp e
    have hT4 : TabSt.made c' oc = ts ∨ ∀ c'' oc'', TabSt.made c' oc = .made c'' oc'' → @LT.lt Nat _ I c'' := by
      rcases lc with lc | lc
      · rcases hT2 with h2 | h2
        · exact .inl (lc.symm.trans h2)
        · exact .inr fun c'' oc'' e => by cases e; exact h2 c' oc lc
      · exact .inr fun c'' oc'' e => by cases e; exact lc _ (List.mem_append.mpr (.inr (.head _)))
    obtain ⟨vsc, tc0, hdc, hvc⟩ := id hT3
    refine readitem_spec w ((f, _) :: (tabL 243 posR (.made c' oc) ++ ((I, _) :: (fn, listOf fvs.toArray n1) :: (tlV ++ rest)))) x d es1 n2 il ol dl row rt (c.2.2.length : Int) st1 _ f dvs dn ps p0 kk W1 ?hd ?hx dx ?hdl ?hps (by omega) (by rw [Int.toNat_natCast]; exact hp0) (hpl p0 (List.mem_of_getElem? hp0)) (by omega) (hx c.2.2.length p0 kk hp0 hkk0) ?hL _ _ _ _ _ _ _ _ _ _ _ _ _ _ _ _ _ _ _ _ B' F3 X' (cb_drop N3 lr_perm2) T' rfl ?kd ?ku ?ret ?raise
    case kd => ktr_room
    case ku => ktr_units
    case hL => exact ⟨⟨_, c', ctv, pm, _, _, _, _, _, oc, vsc, tc0, .head _, .tail _ (List.mem_append.mpr (.inl (.tail _ (.head _)))), hdc, hvc⟩⟩
    case hdl => exact .tail _ (List.mem_append.mpr (.inr (.tail _ (.tail _ (List.mem_append.mpr (.inr hdl))))))
    case hps => exact hps.mono fun p hp => .tail _ (List.mem_append.mpr (.inr (.tail _ (.tail _ (List.mem_append.mpr (.inr hp))))))
    case hd =>
      intro p hp e
      have e' : @Eq Nat p.1 d := e
      have dn' : @LT.lt Nat _ d fn := lfn9.2.1
      rcases List.mem_cons.mp hp with rfl | hp
      · have : @Eq Nat f d := e
        omega
      · rcases List.mem_append.mp hp with hp | hp
        · rcases htabD p hp with h | h <;> omega
        · rcases List.mem_cons.mp hp with rfl | hp
          · have : @Eq Nat I d := e
            omega
          · rcases List.mem_cons.mp hp with rfl | hp
            · have : @Eq Nat fn d := e
              omega
            · rcases List.mem_append.mp hp with hp | hp
              · have h : @LT.lt Nat _ I p.1 := hgt p hp
                omega
              · exact hd' p hp e
    case hx =>
      intro p hp e
      have e' : @Eq Nat p.1 x := e
      have dx' : @LT.lt Nat _ d x := dx
      rcases List.mem_cons.mp hp with rfl | hp
      · have : @Eq Nat f x := e
        omega
      · rcases List.mem_append.mp hp with hp | hp
        · rcases htabD p hp with h | h <;> omega
        · rcases List.mem_cons.mp hp with rfl | hp
          · have : @Eq Nat I x := e
            omega
          · rcases List.mem_cons.mp hp with rfl | hp
            · have : @Eq Nat fn x := e
              omega
            · rcases List.mem_append.mp hp with hp | hp
              · have h : @LT.lt Nat _ I p.1 := hgt p hp
                omega
              · exact hx' p hp e
    case ret =>
      intro dv hdv v es' n' st' tl hvn hDv hord hxt W2 h4 tk4 F4 N4
      have hdl2 := DatAll.length hdone
      have hsz : fvs.toArray.size ≤ sizeLine := by rw [List.size_toArray, sizeLine_eq]; omega
      have hfnT : ∀ p ∈ tl, @LT.lt Nat _ fn p.1 := fun p hp => hord (fn, listOf fvs.toArray n1) (.tail _ (List.mem_append.mpr (.inr (.tail _ (.head _))))) p hp
      have hIT : ∀ p ∈ tl, @LT.lt Nat _ I p.1 := fun p hp => hord (I, _) (.tail _ (List.mem_append.mpr (.inr (.head _)))) p hp
      have hbig : ∀ p ∈ (tabL 243 posR (.made c' oc) ++ (tlV ++ rest)) ++ tl, p.1 ≠ fn := all_app (big fn fnI (.inl lfn9.2.1) (fun p hp => Nat.ne_of_lt (ktn_ltOf lfn9.2.2 p (List.mem_append.mpr (.inr hp))))) (fun p hp => Nat.ne_of_gt (hfnT p hp))
      have hbigI : ∀ p ∈ (tlV ++ tl) ++ (x, instObj 216 d) :: (d, dictOf es' n') :: (tabL 243 posR (.made c' oc) ++ rest), p.1 ≠ I := by
        intro p hp e
        have e' : @Eq Nat p.1 I := e
        rcases List.mem_append.mp hp with hp | hp
        · rcases List.mem_append.mp hp with hp | hp
          · have h : @LT.lt Nat _ I p.1 := hgt p hp
            omega
          · have := hIT p hp
            omega
        · rcases List.mem_cons.mp hp with rfl | hp
          · have e2 : @Eq Nat x I := e; omega
          · rcases List.mem_cons.mp hp with rfl | hp
            · have e2 : @Eq Nat d I := e
              have : @LT.lt Nat _ d fn := lfn9.2.1
              omega
            · rcases List.mem_append.mp hp with hp | hp
              · have : @LT.lt Nat _ d fn := lfn9.2.1
                rcases htabD p hp with h | h <;> omega
              · have h : @LT.lt Nat _ p.1 I := lI p (.tail _ (.tail _ (.tail _ (List.mem_append.mpr (.inr hp)))))
                omega
      replace N4 := cb_drop N4 lr_perm3
      k_steps
      (with_reducible rename News _ _ _ _ => N5)
      have N6 := (show News g' L' _ ((fn, listOf (fvs.toArray.push v) (n1 + 1)) :: (I, _) :: (x, instObj 216 d) :: (d, dictOf es' n') :: ((tabL 243 posR (.made c' oc) ++ (tlV ++ rest)) ++ tl)) from by k_asm)
      rw [List.push_toArray] at N6
      have hdrop : ps' = ps.drop (c.2.2 ++ [dv]).length := by
        have h1 : ps.drop (c.2.2.length + 1) = ps' := by rw [← List.drop_drop, ← hp1]; rfl
        rw [List.length_append]; exact h1.symm
      have hdropk : ks' = ks.drop (c.2.2 ++ [dv]).length := by
        have h1 : ks.drop (c.2.2.length + 1) = ks' := by rw [← List.drop_drop, ← hk1]; rfl
        rw [List.length_append]; exact h1.symm
      have W3 : WE es' il ol dl row rt ((c.2.2 ++ [dv]).length : Int) st' := by
        rw [List.length_append]; exact W2
      exact ⟨_, _, _, (fn, listOf (fvs ++ [v]).toArray (n1 + 1)) :: ((tlV ++ tl) ++ (x, instObj 216 d) :: (d, dictOf es' n') :: (tabL 243 posR (.made c' oc) ++ rest)), rfl, by k_asm, cb_drop N6 lr_perm4, (fun p hp q hq => by
        rw [List.mem_singleton.mp hq]
        rcases List.mem_cons.mp hp with rfl | hp
        · exact Nat.ne_of_lt fnI
        · exact hbigI p hp), ⟨⟨.tail _ (List.mem_append.mpr (.inr (.tail _ (.tail _ (List.mem_append.mpr (.inr hkl)))))), trivial⟩,
          IH (ps', ks', c.2.2 ++ [dv]) _ _ ⟨kvs', fvs ++ [v], n1 + 1, tlV ++ tl, es', n', st', .made c' oc, rfl, hkv, hdrop, hdropk, rfl, fit_app hdone hDv, all_app hgt hIT, W3, hT3, hT4, ⟨rfl, rfl, trivial⟩, fun ds b h => by rw [List.append_assoc]; exact hR _ _ (.step hdv h)⟩⟩⟩
    case raise =>
      intro hno G e t D oD h4 tk4 u u2 FG R HD U dO
      refine caught_berr R HD FG B' U XB TB D' (by k_dflt k_is) (by k_dflt kts_isx) ?_
      intro h5 g5 oe tk5 T5 F5 N5 hoc hod hon B5 X5 P5 D5
      k_steps
      have hfo : findObj (MineH.K w.params) 41 (some oD) (Str.ofString "code") = some (.value (.str (Str.ofString "SN") u)) := findObj_own (attr := none) (by k_dflt k_is) (by k_dflt k_is) rfl (find_fv dO (berrM_code _ _))
      refine berr_get (X5.keeps F5.keep) (ox := oe) (od := some oD) ⟨(N5 _ (.head _)).1, hoc, hon, by rw [hod]; exact (N5 _ (.tail _ (.head _))).1⟩ (by k_dflt k_is) (by k_dflt k_is) (by k_dflt k_is) hfo rfl ?_
      k_steps
      have hF := hR [] false (.bad hno)
      rw [List.append_nil] at hF
      exact ret c.2.2 false hF _ fn fvs n1 tlV es1 n2 st1 u (.made c' oc) hdone W1 hT3 (hTX _ hT4) _ _ (by k_asm) (cb_drop (by k_asm) lr_perm5)
end Mine
end
section
namespace Mine
theorem cut_in {p : Addr × Obj} {pre post : Ledger} : ∀ q ∈ p :: (pre ++ post), q ∈ pre ++ p :: post := fun q hq => by
  simp only [List.mem_cons, List.mem_append] at hq ⊢
  rcases hq with h | h | h <;> simp [h]
theorem cut_out {p : Addr × Obj} {pre post : Ledger} : ∀ q ∈ pre ++ p :: post, q ∈ p :: (pre ++ post) := fun q hq => by
  simp only [List.mem_cons, List.mem_append] at hq ⊢
  rcases hq with h | h | h <;> simp [h]
theorem cut_mem {p q : Addr × Obj} {pre post : Ledger} (h : q ∈ pre ++ p :: post) (hne : q.1 ≠ p.1) : q ∈ pre ++ post := by
  rcases List.mem_append.mp h with h | h
  · exact List.mem_append.mpr (.inl h)
  · rcases List.mem_cons.mp h with rfl | h
    · exact absurd rfl hne
    · exact List.mem_append.mpr (.inr h)
theorem next_use (w : World) (news : Ledger) (g : Obj → Ledger) (cr sl : Addr) (us : List Value) (zs : List Int) (n k : Nat) (c : Int) (tc tm : Tok) (many : Int) (hm : 1 ≤ many ∧ many ≤ 31) (U : UpdF cr (listOf #[.int c tc, .ref sl] n) news g) (hs : (sl, listOf us.toArray k) ∈ news) (hsc : sl ≠ cr) (hz : IntsAre us zs) (hl : us.length ≤ 63) (hc : 0 ≤ c ∧ c ≤ 1000) :
   Does w 227 2 [.ref cr, .int many tm] news (fun K => ∀ r t t2, 0 ≤ r → r < many → K (.int r t) (g (listOf #[.int (c + 1) t2, .ref sl] n))) := by
  intro mean mg mb dp un gd cn cs a ccd cl outer A₀ base h₀ L m s Q E B F X N T hk hd hu ret
  obtain ⟨pre, post, rfl, hg, h1, h2⟩ := U.split
  refine next_spec w (pre ++ post) cr sl us zs n k c tc tm many hm (cut_mem hs hsc) hz hl hc (all_app h1 h2) mean mg mb dp un gd cn cs a ccd cl outer A₀ base h₀ L m s Q E B F X (cb_drop N cut_in) T hk hd hu ?_
  intro r t t2 r0 r1 h' tk' F' N'
  refine ret r t t2 r0 r1 h' tk' F' ?_
  rw [hg]
  exact cb_drop N' cut_out
theorem lfield_use (w : World) (news : Ledger) (g : Obj → Ledger) (cr sl : Addr) (us : List Value) (zs : List Int) (n k : Nat) (c : Int) (tc tm : Tok) (kind : PySem.Str) (last : Bool) (U : UpdF cr (listOf #[.int c tc, .ref sl] n) news g) (hs : (sl, listOf us.toArray k) ∈ news) (hsc : sl ≠ cr) (hz : IntsAre us zs) (hl : us.length ≤ 63) (hc : 0 ≤ c ∧ c ≤ 900) :
   Does w 241 5 [.ref cr, .str kind tm, .bool last] news (fun K => ∀ t2 a t3 W v d tl, LfR last kind W d → DatIn tl v d → (∀ q ∈ g (listOf #[.int (c + 1 + 1) t2, .ref sl] n), ∀ p ∈ (a, tupO [.str W t3, v]) :: tl, q.1 < p.1) → (∀ p ∈ tl, p.1 < a) → K (.ref a) ((a, tupO [.str W t3, v]) :: (tl ++ g (listOf #[.int (c + 1 + 1) t2, .ref sl] n)))) := by
  intro mean mg mb dp un gd cn cs a ccd cl outer A₀ base h₀ L m s Q E B F X N T hk hd hu ret
  obtain ⟨pre, post, rfl, hg, h1, h2⟩ := U.split
  refine lfield_spec w (pre ++ post) cr sl us zs n k c tc tm kind last (cut_mem hs hsc) hz hl hc (all_app h1 h2) mean mg mb dp un gd cn cs a ccd cl outer A₀ base h₀ L m s Q E B F X (cb_drop N cut_in) T hk hd hu ?_
  intro t2 a t3 W v d tl hR hD ho hoc ha h' tk' F' N'
  refine ret t2 a t3 W v d tl hR hD (fun q hq p hp => ?_) ha h' tk' F' ?_
  · rw [hg] at hq
    rcases List.mem_cons.mp (cut_out q hq) with rfl | hq
    · exact hoc p hp
    · exact ho q hq p hp
  · rw [hg]
    refine cb_drop N' fun p hp => ?_
    rcases List.mem_cons.mp hp with rfl | hp
    · exact .head _
    · rcases List.mem_append.mp hp with hp | hp
      · exact .tail _ (List.mem_append.mpr (.inl hp))
      · exact .tail _ (List.mem_append.mpr (.inr (cut_out p hp)))
end Mine
end
section
namespace Mine
/-- law's own def, read off the head's written part -/
noncomputable def lawFd (P : Params) : Option FuncData := match (MineH.K P).lookup 253 with
  | some ⟨_, _, .func fd, _⟩ => some fd
  | _ => none
noncomputable def lawSt (P : Params) (i : Nat) : Option Stmt := match lawFd P with
  | some fd => (match fd.body with
    | .stmts b => b[i]?
    | _ => none)
  | _ => none
noncomputable def lawScope (P : Params) : Option Scope := (lawFd P).map (·.scope)
end Mine
end
section
namespace Mine
theorem kw_LT1_0 : True := by
  k_with_none
  w_top off
  k_with "KALL" => (first | exact List.forall_mem_nil _ | with_reducible assumption | (refine' List.forall_mem_cons.mpr ⟨?a, ?b⟩; (case a => k_ne); (case b => k_all)))
  k_with "KMEM" => (first | with_reducible assumption | (change (_ : Addr × Obj) ∈ (_ : List (Addr × Obj)); with_reducible assumption) | exact List.mem_append.mpr (.inl (by with_reducible assumption)) | (refine List.mem_append.mpr (.inr ?_); k_mem))
  k_with "exec Assign" => walk_at "FOLD"
  k_with "exec Return some" => walk_at "FOLD"
  k_with "exec If" => walk_at "FOLD"
  k_with "exec AugAssign" => walk_at "FOLD"
  k_with "exec Expr" => walk_at "FOLD"
  k_with "eval Tuple" => walk_at "FOLD"
  k_with "eval List" => walk_at "FOLD"
  k_with "eval BinOp" => walk_at "FOLD"
  k_with "eval Call" => walk_at "FOLD"
  k_with "eval Subscript" => walk_at "FOLD"
  k_with "eval IfExp" => walk_at "FOLD"
  k_with "isTrue BoolOp" => walk_at "FOLD"
  k_with "isTrue Compare" => walk_at "FOLD"
  k_with "eval Call Attribute" => walk_at "FOLD"
  k_with "FOLD" => ((fail_if_success (fail_if_success k_fold)); refine (let qk := _; let ek := _; (?_ : wpAny _ _ _ qk ek _)))
  k_with "execs cons" => (refine wp_tk s ?_; intro _)
  k_with "CALLW" => (k_here; k_dflt (refine' Does.use (world_spec _ _) ?k1 ?k2 ?k3 ?k4 ?k5 ?kK ?kd ?ku ?_; (case k1 => k_asm); (case k2 => k_asm); (case k3 => k_asm); (case k4 => k_asm); (case k5 => k_asm); (case kK => exact rfl); (case kd => k_dflt (exact Nat.le_of_ble_eq_true rfl)); (case ku => k_dflt (exact Nat.le_of_ble_eq_true rfl))); intro x9 d9 es9 n9 il9 ol9 dl9 rt9 st9 we9 ow9 dx9 xo9 oi9 id9 h9 tk9 F9 N9; (k_lt ow9); (try dsimp only); (try k_fold))
  k_with "CALLS" => (k_here; k_dflt (refine' Does.use (next_use _ _ _ _ _ _ _ _ _ _ _ _ _ ?s1 ?U ?s2 hslcr hzs hls ?s6) ?k1 ?k2 ?k3 ?k4 ?k5 ?kK ?kd ?ku ?_; (case k1 => k_asm); (case k2 => k_asm); (case k3 => k_asm); (case k4 => k_asm); (case k5 => k_asm); (case kK => exact rfl); (case kd => k_dflt (exact Nat.le_of_ble_eq_true rfl)); (case ku => k_dflt (exact Nat.le_of_ble_eq_true rfl)); (case U => k_updF); (case s1 => decide); (case s2 => k_dflt k_mem); (case s6 => constructor <;> omega)); intro r9 t9 u9 r90 r91 h9 tk9 F9 N9; (try dsimp only at N9); (try dsimp only); (try k_fold))
  k_with "call ref" => (first | walk_at "CALLS" | walk_at "CALLW" | refine hold ?_)
  k_with "CompSrc" => (refine hold ?_)
  k_with "CompEnd" => (refine hold ?_)
  k_with "subscriptTail" => (k_here; (with_reducible show wpAny _ _ (subscriptTail _ _ (Value.ref _) (Value.int _ _)) _ _ _); refine pick_s (by k_asm) (by k_dflt k_mem) (by kct_strs) (by omega) (by (simp only [List.length_cons, List.length_nil]); omega) (by decide) (by with_unfolding_all rfl) ?_ (all_len (by decide +kernel)); intro _ lw9)
  trivial
/-- a statement of the loop's turn -/
noncomputable def turnSt (P : Params) (i : Nat) : Option Stmt := match lawSt P 1 with
  | some (.For _ _ body _ _) => body[i]?
  | _ => none
@[reducible] noncomputable def crO (c : Int) (tc : Tok) (sl : Addr) (n : Nat) : Obj := listOf #[.int c tc, .ref sl] n
theorem comp_ind {prog : Program} {w : World} {A : Around} {h₀ : Heap} {L : Addr} {m : PySem.Str → Option Value} {env : Env} {elt : PySem.Expr} {x : PySem.Str} {scope : Scope} {cl : List (PySem.Str × Addr)} {s : Shared} {S : Ledger → Prop} {P : Nat → Value → Prop} {Fin : List Value → Ledger → Prop}
    (I : Nat → Nat → List Value → Ledger → Prop) (zero : ∀ i ys news, I 0 i ys news → Fin ys news)
    (succ : ∀ k i ys news, I (k + 1) i ys news → (∀ ys' news', I k (i + 1) ys' news' → LCg.CompRest prog w A h₀ L m env elt x scope cl s S P Fin k (i + 1) ys' news') → LCg.CompRest prog w A h₀ L m env elt x scope cl s S P Fin (k + 1) i ys news) :
    ∀ k i ys news, I k i ys news → LCg.CompRest prog w A h₀ L m env elt x scope cl s S P Fin k i ys news
  | 0, i, ys, news, h => zero i ys news h
  | k + 1, i, ys, news, h => succ k i ys news h fun ys' news' h' => comp_ind I zero succ k (i + 1) ys' news' h'
theorem sub_tail1 {p : Addr × Obj} {l : Ledger} : ∀ q ∈ l, q ∈ p :: l := fun _ h => .tail _ h
theorem s0 (w : World) (st : Stmt) (sc : Scope) (hst : turnSt w.params 0 = some st) (hsc : lawScope w.params = some sc)
   (L fa cr sl : Addr) (us : List Value) (zs : List Int) (kn n : Nat) (om oc : Obj) (c : Int) (tc : Tok) (rest : Ledger) (hzs : IntsAre us zs) (hls : us.length ≤ 63) (hslcr : sl ≠ cr) (vm : Option Value) (homd : om.data = .cell vm) (hocd : oc.data = .cell (some (.ref cr)))
   (hc : 0 ≤ c ∧ c ≤ 800) (hsl : (sl, listOf us.toArray kn) ∈ rest) (hoc : (L + 1, oc) ∈ rest) (hcr : ∀ p ∈ rest, p.1 ≠ cr) (hom : ∀ p ∈ rest, p.1 ≠ L + 1 + 1) (o2 : @Ne Nat cr (L + 1 + 1))
   {mean : ExcName → Option Value} {mg mb : PySem.Str → Option Value} {h₀ : Heap} {m : PySem.Str → Option Value} {s : Shared} {Q : Flow → Shared → Prop} {E : Value → Shared → Prop}
   (B : Below callerA h₀ [] h₀) (F : Fr h₀ L s.heap m) (X : (MineH.K w.params).In h₀) (N : News h₀ L s.heap ((cr, crO c tc sl n) :: (L + 1 + 1, om) :: rest)) (T : Top topProg topLs mean mg mb h₀)
   (hQ : ∀ r tm x d es n' ol il dl rt st' tc' om', 0 ≤ r → r < 3 → WE es il ol dl (Str.ofString "") rt 0 st' → om'.data = .cell (some (.int (1 + r) tm)) → (∀ p ∈ (cr, crO c tc sl n) :: (L + 1 + 1, om) :: rest, p.1 < d) → @LT.lt Nat _ d x → @LT.lt Nat _ x ol → @LT.lt Nat _ ol il → @LT.lt Nat _ il dl →
     ∀ h' tk', Fr h₀ L h' (fun y => if y = Str.ofString "world" then some (.ref x) else m y) → News h₀ L h' ((x, instObj 216 d) :: (d, dictOf es n') :: (ol, listOf [].toArray 0) :: (il, listOf [].toArray 0) :: (dl, listOf [].toArray 0) :: (cr, crO (c + 1) tc' sl n) :: (L + 1 + 1, om') :: rest) → Q .next { s with heap := h', toks := tk' }) :
   wpAny (model PySem.Challenge.rw_pf0007_01.row.prog w) (callerA.deeper (envOfC (Str.ofString "law") sc L fa (.ref 252))) (exec st (envOfC (Str.ofString "law") sc L fa (.ref 252))) Q E s := by
  conv at hst => lhs; whnf
  conv at hsc => lhs; whnf
  cases hst
  cases hsc
  k_steps
  have ow := (show _ ∧ _ ∧ AllLt _ rest from by with_reducible assumption)
  exact hQ _ _ _ _ _ _ _ _ _ _ _ _ _ (by with_reducible assumption) (by with_reducible assumption) (by with_reducible assumption) (by with_reducible assumption) (List.forall_mem_cons.mpr ⟨ow.1, List.forall_mem_cons.mpr ⟨ow.2.1, ktn_ltOf ow.2.2⟩⟩) (by with_reducible assumption) (by with_reducible assumption) (by with_reducible assumption) (by with_reducible assumption) _ _ (by k_asm) (cb_drop (by k_asm) sub_tail1)
noncomputable def kndL : List PySem.Str := [Str.ofString "whole", Str.ofString "text", Str.ofString "decimal"]
theorem off1_mem {D : Addr} : ∀ {l : Ledger}, LCg.Off1 D l → ∀ p ∈ l, p.1 ≠ D
  | [], _, _, h => nomatch h
  | _ :: _, x, p, h => by
    rcases List.mem_cons.mp h with rfl | h
    · exact x.1
    · exact off1_mem x.2 p h
inductive KdI (c : Int) (cr sl : Addr) (n : Nat) (rest : Ledger) (r : Nat) : Nat → Nat → List Value → Ledger → Prop
  | mk {k i : Nat} {ys} {cc : Int} (ks : List PySem.Str) (tc' : Tok) : cc = c + (i : Int) → k + i = r + 1 → ks.length = i → (∀ k ∈ ks, k ∈ kndL) → (∀ l, DatAll l ys (ks.map Dat.str)) → KdI c cr sl n rest r k i ys ((cr, crO cc tc' sl n) :: rest)
theorem s1 (w : World) (st : Stmt) (sc : Scope) (hst : turnSt w.params 1 = some st) (hsc : lawScope w.params = some sc)
   (L fa cr sl : Addr) (us : List Value) (zs : List Int) (kn n : Nat) (om oc : Obj) (c : Int) (tc : Tok) (rest : Ledger) (hzs : IntsAre us zs) (hls : us.length ≤ 63) (hslcr : sl ≠ cr) (r : Nat) (tm : Tok) (hr3 : r < 3) (homd : om.data = .cell (some (.int (1 + (r : Int)) tm))) (hocd : oc.data = .cell (some (.ref cr)))
   (hc : 0 ≤ c ∧ c ≤ 800) (hsl : (sl, listOf us.toArray kn) ∈ rest) (hoc : (L + 1, oc) ∈ rest) (hom : (L + 1 + 1, om) ∈ rest) (hcr : ∀ p ∈ rest, p.1 ≠ cr)
   {mean : ExcName → Option Value} {mg mb : PySem.Str → Option Value} {h₀ : Heap} {m : PySem.Str → Option Value} {s : Shared} {Q : Flow → Shared → Prop} {E : Value → Shared → Prop}
   (B : Below callerA h₀ [] h₀) (F : Fr h₀ L s.heap m) (X : (MineH.K w.params).In h₀) (N : News h₀ L s.heap ((cr, crO c tc sl n) :: rest)) (T : Top topProg topLs mean mg mb h₀)
   (hQ : ∀ (kl : Addr) (ys : List Value) (ks : List PySem.Str) (tc' : Tok), ks.length = r + 1 → (∀ k ∈ ks, k ∈ kndL) → (∀ l, DatAll l ys (ks.map Dat.str)) → (∀ p ∈ (cr, crO c tc sl n) :: rest, p.1 ≠ kl) → ∀ h' tk', Fr h₀ L h' (fun y => if y = Str.ofString "kinds" then some (.ref kl) else m y) → News h₀ L h' ((kl, listOf ys.toArray ys.length) :: (cr, crO (c + (r : Int) + 1) tc' sl n) :: rest) → Q .next { s with heap := h', toks := tk' }) :
   wpAny (model PySem.Challenge.rw_pf0007_01.row.prog w) (callerA.deeper (envOfC (Str.ofString "law") sc L fa (.ref 252))) (exec st (envOfC (Str.ofString "law") sc L fa (.ref 252))) Q E s := by
  conv at hst => lhs; whnf
  conv at hsc => lhs; whnf
  cases hst
  cases hsc
  k_dflt (refine LCg.Assign_ListComp_U (F₀ := F) (by rfl) (by with_unfolding_all rfl) (by with_unfolding_all rfl) (by decide) (by rfl) (by decide) (by rfl) (by rfl) (by rfl) ?_)
  k_steps
  unfold Hold
  have R9 := (show IsRange _ _ 0 (1 + (r : Int)) 1 _ _ _ from by with_reducible assumption)
  k_dflt (refine LCg.CompSrc.range (n := r + 1) rfl (by k_asm) (by k_asm) R9 ?hsm ?hn ?hsz (fun g => ?_))
  case hsm =>
    have : r = 0 ∨ r = 1 ∨ r = 2 := by omega
    rcases this with rfl | rfl | rfl <;> decide +kernel
  case hn =>
    have : r = 0 ∨ r = 1 ∨ r = 2 := by omega
    rcases this with rfl | rfl | rfl <;> decide +kernel
  case hsz => exact Nat.le_trans (show r + 1 ≤ 3 by omega) (Nat.le_of_ble_eq_true rfl)
  refine comp_ind (KdI c cr sl n rest r) ?zero ?succ (r + 1) 0 [] _ (.mk [] tc (by omega) rfl rfl (fun _ h => nomatch h) (fun _ => .nil))
  case zero =>
    rintro i ys _ ⟨ks, tc', rfl, hi, hkl, hkm, hkd⟩ D h tk F1 N1 o1
    obtain rfl : i = r + 1 := by omega
    have e : c + ((r + 1 : Nat) : Int) = c + (r : Int) + 1 := by omega
    rw [e] at N1
    exact hQ D ys ks tc' hkl hkm hkd (fun p hp => by
      rcases List.mem_cons.mp hp with rfl | hp
      · exact o1.1
      · exact off1_mem o1.2 p hp) _ _ F1 N1
  case succ =>
    rintro k i ys _ ⟨ks, tc', rfl, hi, hkl, hkm, hkd⟩ IH
    refine LCg.CompRest.succ ?_
    rintro v I oI C oC D m₂ h tk E' hv hC hx F1 N1 off ne
    have off' := off.mem
    simp only [LCg.Off3] at off
    have hci : 0 ≤ c + (i : Int) ∧ c + (i : Int) ≤ 900 := by omega
    k_steps
    unfold Hold
    have hmem : (kndL.getD r9.toNat PySem.Str.empty) ∈ kndL := by
      have : r9 = 0 ∨ r9 = 1 ∨ r9 = 2 := by omega
      rcases this with rfl | rfl | rfl <;> decide +kernel
    refine LCg.CompEnd.intro (by k_asm) (by k_asm) ((cr, crO (c + (i : Int) + 1) _ sl n) :: rest) sub_tail1 (LCg.Off3.of fun p hp => ?_) trivial (IH _ _ (.mk (ks ++ [kndL.getD r9.toNat PySem.Str.empty]) _ (by omega) (by omega) (by rw [List.length_append, hkl]; rfl) (fun k hk => ?_) (fun l => ?_)))
    · rcases List.mem_cons.mp hp with rfl | hp
      · exact off' (cr, crO (c + (i : Int)) tc' sl n) (.head _)
      · exact off' p (.tail _ hp)
    · rcases List.mem_append.mp hk with hk | hk
      · exact hkm k hk
      · rw [List.mem_singleton.mp hk]; exact hmem
    · rw [List.map_append]
      exact DatAll.append (hkd l) (.cons (.str _ _) .nil)
theorem kw_LT1_1 : True := by
  k_with "CALLF" => (k_here; k_dflt (refine' Does.use (lfield_use _ _ _ _ _ _ _ _ _ _ _ _ _ _ ?U ?s2 hslcr hzs hls ?s6) ?k1 ?k2 ?k3 ?k4 ?k5 ?kK ?kd ?ku ?_; (case k1 => k_asm); (case k2 => k_asm); (case k3 => k_asm); (case k4 => k_asm); (case k5 => k_asm); (case kK => exact rfl); (case kd => k_dflt (exact Nat.le_of_ble_eq_true rfl)); (case ku => k_dflt (exact Nat.le_of_ble_eq_true rfl)); (case U => k_updF); (case s2 => k_dflt k_mem); (case s6 => constructor <;> omega)); intro t9 a9 u9 W9 v9 d9 tl9 hL9 hD9 ho9 hta9 h9 tk9 F9 N9; (try dsimp only at N9); (try dsimp only); (try k_fold))
  k_with "call ref" => (first | walk_at "CALLF" | walk_at "CALLS" | refine hold ?_)
  k_with "EnSrc" => (refine hold ?_)
  k_with "EnEnd" => (refine hold ?_)
  k_with "call type:enumerate" => (refine hold ?_)
  trivial
theorem en_ind {prog : Program} {w : World} {A : Around} {h₀ : Heap} {L : Addr} {m : PySem.Str → Option Value} {env : Env} {elt : PySem.Expr} {a b : PySem.Str} {scope : Scope} {cl : List (PySem.Str × Addr)} {s : Shared} {k : Addr × Obj} {Fin : List Value → Ledger → Prop}
    (I : Nat → List Value → List Value → Ledger → Prop) (nil : ∀ i ys news, I i [] ys news → Fin ys news)
    (cons : ∀ i v r ys news, I i (v :: r) ys news → (∀ ys' news', I (i + 1) r ys' news' → EnRest prog w A h₀ L m env elt a b scope cl s k Fin (i + 1) r ys' news') → EnRest prog w A h₀ L m env elt a b scope cl s k Fin i (v :: r) ys news) :
    ∀ r i ys news, I i r ys news → EnRest prog w A h₀ L m env elt a b scope cl s k Fin i r ys news
  | [], i, ys, news, h => nil i ys news h
  | v :: r, i, ys, news, h => cons i v r ys news h fun ys' news' h' => en_ind I nil cons r (i + 1) ys' news' h'
noncomputable def fdD (p : PySem.Str × Dat) : Dat := .tuple [.str p.1, p.2]
/-- the fields drawn so far, of kinds ks: the one at the very end may be without an end quote -/
noncomputable def FldsR (many : Nat) (ks : List PySem.Str) (fs : List (PySem.Str × Dat)) : Prop := ∀ (i : Nat) W d, fs[i]? = some (W, d) → ∃ k, ks[i]? = some k ∧ LfR (decide (i + 1 = many)) k W d
theorem en_perm {a J I C D K : Addr × Obj} {tl9 tl rest : Ledger} : ∀ p ∈ J :: I :: C :: D :: K :: ((tl ++ a :: tl9) ++ rest), p ∈ a :: (tl9 ++ J :: I :: C :: D :: K :: (tl ++ rest)) := by
  intro p hp
  simp only [List.mem_cons, List.mem_append] at hp ⊢
  rcases hp with h | h | h | h | h | (h | h | h) | h <;> simp [h]
inductive FdI (c : Int) (tc : Tok) (cr sl : Addr) (n : Nat) (rest : Ledger) (r : Nat) (kvs : List Value) (ks : List PySem.Str) : Nat → List Value → List Value → Ledger → Prop
  | mk {i : Nat} {rem ys} {cc : Int} (fs : List (PySem.Str × Dat)) (tl : Ledger) (tc' : Tok) : cc = c + 2 * (i : Int) → rem = kvs.drop i → i ≤ r + 1 → fs.length = i → FldsR (r + 1) ks fs → DatAll tl ys (fs.map fdD) → (∀ q ∈ (cr, crO c tc sl n) :: rest, ∀ p ∈ tl, q.1 < p.1) → FdI c tc cr sl n rest r kvs ks i rem ys ((cr, crO cc tc' sl n) :: (tl ++ rest))
theorem s2 (w : World) (st : Stmt) (sc : Scope) (hst : turnSt w.params 2 = some st) (hsc : lawScope w.params = some sc)
   (L fa cr sl : Addr) (us : List Value) (zs : List Int) (kn n : Nat) (om oc : Obj) (c : Int) (tc : Tok) (rest : Ledger) (hzs : IntsAre us zs) (hls : us.length ≤ 63) (hslcr : sl ≠ cr) (r : Nat) (tm : Tok) (hr3 : r < 3) (homd : om.data = .cell (some (.int (1 + (r : Int)) tm))) (hocd : oc.data = .cell (some (.ref cr)))
   (kl : Addr) (kvs : List Value) (ks : List PySem.Str) (hkn : ks.length = r + 1) (hkd : ∀ l, DatAll l kvs (ks.map Dat.str)) (hkl : (kl, listOf kvs.toArray kvs.length) ∈ rest)
   (hc : 0 ≤ c ∧ c ≤ 800) (hsl : (sl, listOf us.toArray kn) ∈ rest) (hoc : (L + 1, oc) ∈ rest) (hom : (L + 1 + 1, om) ∈ rest) (hcr : ∀ p ∈ rest, p.1 ≠ cr)
   {mean : ExcName → Option Value} {mg mb : PySem.Str → Option Value} {h₀ : Heap} {m : PySem.Str → Option Value} {s : Shared} {Q : Flow → Shared → Prop} {E : Value → Shared → Prop} (hm : Has m [(Str.ofString "kinds", .ref kl)])
   (B : Below callerA h₀ [] h₀) (F : Fr h₀ L s.heap m) (X : (MineH.K w.params).In h₀) (N : News h₀ L s.heap ((cr, crO c tc sl n) :: rest)) (T : Top topProg topLs mean mg mb h₀)
   (hQ : ∀ (fl : Addr) (ys : List Value) (fs : List (PySem.Str × Dat)) (tl : Ledger) (tc' : Tok), fs.length = r + 1 → FldsR (r + 1) ks fs → DatAll tl ys (fs.map fdD) → (∀ q ∈ (cr, crO c tc sl n) :: rest, ∀ p ∈ tl, q.1 < p.1) → (∀ p ∈ (cr, crO c tc sl n) :: (tl ++ rest), p.1 ≠ fl) → ∀ h' tk', Fr h₀ L h' (fun y => if y = Str.ofString "fields" then some (.ref fl) else m y) → News h₀ L h' ((fl, listOf ys.toArray ys.length) :: (cr, crO (c + 2 * (r : Int) + 2) tc' sl n) :: (tl ++ rest)) → Q .next { s with heap := h', toks := tk' }) :
   wpAny (model PySem.Challenge.rw_pf0007_01.row.prog w) (callerA.deeper (envOfC (Str.ofString "law") sc L fa (.ref 252))) (exec st (envOfC (Str.ofString "law") sc L fa (.ref 252))) Q E s := by
  obtain ⟨m0, rfl⟩ : ∃ m0, m = fmu [(Str.ofString "kinds", .ref kl)] m0 := ⟨m, fmu_eq hm⟩
  conv at hst => lhs; whnf
  conv at hsc => lhs; whnf
  cases hst
  cases hsc
  k_dflt (refine Assign_enum F (by rfl) (by with_unfolding_all rfl) (by with_unfolding_all rfl) (by decide) (by rfl) (by decide) (by rfl) (by rfl) (by decide) (by rfl) (by rfl) ?_)
  k_steps
  unfold Hold
  have hkl0 : kvs.length = r + 1 := by have := DatAll.length (hkd []); rw [List.length_map] at this; omega
  refine EnSrc.make (by rfl) F N (.tail _ hkl) (Nat.le_trans (show kvs.length ≤ 3 by omega) (Nat.le_of_ble_eq_true rfl)) (fun g => ?_)
  refine en_ind (FdI c tc cr sl n rest r kvs ks) ?nil ?cons kvs 0 [] _ (.mk [] [] tc (by omega) rfl (Nat.zero_le _) rfl (fun _ _ _ h => nomatch h) .nil (fun _ _ _ h => nomatch h))
  case nil =>
    rintro i ys _ ⟨fs, tl, tc', rfl, hr, hi, hfl, hfR, hfd, hord⟩ D h tk F1 N1 o1
    have hi2 : i = r + 1 := by have := congrArg List.length hr; rw [List.length_nil, List.length_drop] at this; omega
    subst hi2
    rw [show c + 2 * ((r + 1 : Nat) : Int) = c + 2 * (r : Int) + 2 by omega] at N1
    exact hQ D ys fs tl tc' hfl hfR hfd hord (List.forall_mem_cons.mpr ⟨o1 (cr, crO (c + 2 * ((r + 1 : Nat) : Int)) tc' sl n) (.head _), fun p hp => o1 p (.tail _ hp)⟩) _ _ F1 N1
  case cons =>
    rintro i v rem ys _ ⟨fs, tl, tc', rfl, hr, hi, hfl, hfR, hfd, hord⟩ IH
    rintro t J oJ I oI C oC D m₂ h tk E' hC hx hx2 F1 N1 off
    have hil : i < kvs.length := by have := congrArg List.length hr; rw [List.length_cons, List.length_drop] at this; omega
    have hr2 : v = kvs[i] ∧ rem = kvs.drop (i + 1) := by rw [List.drop_eq_getElem_cons hil] at hr; exact List.cons.inj hr
    obtain ⟨kk, hkk, hvk⟩ : ∃ kk, ks[i]? = some kk ∧ ∃ t, v = .str kk t := by
      obtain ⟨p, hp1, hp2⟩ := datAll_at (f := Dat.str) (hkd []) (j := i) (v := v) (by rw [hr2.1]; exact List.getElem?_eq_getElem hil)
      refine ⟨p, hp1, ?_⟩
      cases hp2 with
      | str _ t => exact ⟨t, rfl⟩
    obtain ⟨tv, rfl⟩ := hvk
    have hci : 0 ≤ c + 2 * (i : Int) ∧ c + 2 * (i : Int) ≤ 900 := by omega
    have hcr2 : ∀ p ∈ tl ++ rest, p.1 ≠ cr := all_app (fun p hp => Nat.ne_of_gt (hord (cr, crO c tc sl n) (.head _) p hp)) hcr
    obtain ⟨n1, n2, n3, n4⟩ := off (cr, crO (c + 2 * (i : Int)) tc' sl n) (.head _)
    have n1 : @Ne Nat J cr := Ne.symm n1
    have n2 : @Ne Nat I cr := Ne.symm n2
    have n3 : @Ne Nat C cr := Ne.symm n3
    have n4 : @Ne Nat D cr := Ne.symm n4
    k_steps
    unfold Hold
    have hb9 : ((i : Int) == 1 + (r : Int) - 1) = decide (i + 1 = r + 1) := by
      by_cases h : i = r
      · subst h
        rw [decide_eq_true rfl, show (1 + (i : Int) - 1) = (i : Int) by omega, beq_self_eq_true]
      · rw [decide_eq_false (by omega), beq_false_of_ne (by omega)]
    rw [hb9] at hL9
    have hrest : ∀ q ∈ (cr, crO c tc sl n) :: rest, ∀ p ∈ (a9, tupO [.str W9 _, v9]) :: tl9, q.1 < p.1 := fun q hq p hp => by
      rcases List.mem_cons.mp hq with rfl | hq
      · exact ho9 _ (.tail _ (.tail _ (.tail _ (.tail _ (.head _))))) p hp
      · exact ho9 q (.tail _ (.tail _ (.tail _ (.tail _ (.tail _ (List.mem_append.mpr (.inr hq))))))) p hp
    refine .mk ((cr, crO (c + 2 * (i : Int) + 1 + 1) _ sl n) :: ((tl ++ (a9, tupO [.str W9 _, v9]) :: tl9) ++ rest)) (by k_asm) (cb_drop (by k_asm) en_perm) (fun p hp => ?_) (.tail _ (List.mem_append.mpr (.inr hkl))) ?_
    · rcases List.mem_cons.mp hp with rfl | hp
      · exact off (cr, crO (c + 2 * (i : Int)) tc' sl n) (.head _)
      rcases List.mem_append.mp hp with hp | hp
      · rcases List.mem_append.mp hp with hp | hp
        · exact off p (.tail _ (List.mem_append.mpr (.inl hp)))
        · exact ⟨Nat.ne_of_gt (ho9 _ (.head _) p hp), Nat.ne_of_gt (ho9 _ (.tail _ (.head _)) p hp), Nat.ne_of_gt (ho9 _ (.tail _ (.tail _ (.head _))) p hp), Nat.ne_of_gt (ho9 _ (.tail _ (.tail _ (.tail _ (.head _)))) p hp)⟩
      · exact off p (.tail _ (List.mem_append.mpr (.inr hp)))
    · refine IH _ _ (.mk (fs ++ [(W9, d9)]) (tl ++ (a9, tupO [.str W9 _, v9]) :: tl9) _ (by omega) hr2.2 (by omega) (by rw [List.length_append, hfl]; rfl) ?_ ?_ ?_)
      · intro j W d hj
        by_cases hji : j < fs.length
        · rw [List.getElem?_append_left hji] at hj
          exact hfR j W d hj
        · rw [List.getElem?_append_right (by omega)] at hj
          have : j - fs.length = 0 := by
            have := (List.getElem?_eq_some_iff.mp hj).1
            rw [List.length_singleton] at this
            omega
          rw [this] at hj
          cases hj
          obtain rfl : j = i := by omega
          exact ⟨kk, hkk, hL9⟩
      · rw [List.map_append]
        exact DatAll.append (hfd.mono fun p hp => List.mem_append.mpr (.inl hp)) (.cons (.tuple (List.mem_append.mpr (.inr (.head _))) (.cons (.str _ _) (.cons (hD9.mono fun p hp => List.mem_append.mpr (.inr (.tail _ hp))) .nil))) .nil)
      · intro q hq p hp
        rcases List.mem_append.mp hp with hp | hp
        · exact hord q hq p hp
        · exact hrest q hq p hp
end Mine
end
section
namespace Mine
theorem kw_LT2_0 : True := by
  k_with_none
  w_top off
  k_with "KALL" => (first | exact List.forall_mem_nil _ | with_reducible assumption | (refine' List.forall_mem_cons.mpr ⟨?a, ?b⟩; (case a => k_ne); (case b => k_all)))
  k_with "KMEM" => (first | with_reducible assumption | (change (_ : Addr × Obj) ∈ (_ : List (Addr × Obj)); with_reducible assumption) | exact List.mem_append.mpr (.inl (by with_reducible assumption)) | (refine List.mem_append.mpr (.inr ?_); k_mem))
  k_with "exec Assign" => walk_at "FOLD"
  k_with "exec Return some" => walk_at "FOLD"
  k_with "exec If" => walk_at "FOLD"
  k_with "exec AugAssign" => walk_at "FOLD"
  k_with "exec Expr" => walk_at "FOLD"
  k_with "eval Tuple" => walk_at "FOLD"
  k_with "eval List" => walk_at "FOLD"
  k_with "eval BinOp" => walk_at "FOLD"
  k_with "eval Call" => walk_at "FOLD"
  k_with "eval Subscript" => walk_at "FOLD"
  k_with "eval IfExp" => walk_at "FOLD"
  k_with "isTrue BoolOp" => walk_at "FOLD"
  k_with "isTrue Compare" => walk_at "FOLD"
  k_with "eval Call Attribute" => walk_at "FOLD"
  k_with "FOLD" => ((fail_if_success (fail_if_success k_fold)); refine (let qk := _; let ek := _; (?_ : wpAny _ _ _ qk ek _)))
  k_with "execs cons" => (refine wp_tk s ?_; intro _)
  k_with "eval ListComp" => (refine hold ?_)
  k_with "SrcLP" => (refine hold ?_)
  k_with "CompEnd" => (refine hold ?_)
  k_with "CompSrc" => (refine hold ?_)
  k_with "call builtin:str.join" => (refine hold ?_)
  trivial
theorem str_vals {l : Ledger} : ∀ {vs : List Value} {xs : List PySem.Str}, DatAll l vs (xs.map Dat.str) → ∃ ps : List (PySem.Str × Tok), vs = strValues ps ∧ ps.map (·.1) = xs
  | [], [], _ => ⟨[], rfl, rfl⟩
  | v :: vs, x :: xs, .cons h r => by
    obtain ⟨ps, rfl, hp⟩ := str_vals r
    cases h with
    | str _ t => exact ⟨(x, t) :: ps, rfl, by rw [List.map_cons, hp]⟩
theorem join_D {prog : Program} {w : World} {A : Around} {E : Value → Shared → Prop} {s : Shared} {h₀ : Heap} {L D : Addr} {news l : Ledger} {vs : List Value} {n : Nat} {xs : List PySem.Str} {sep : PySem.Str} {t : Tok} {Q : Value → Shared → Prop}
    (N : News h₀ L s.heap news) (hm : (D, listOf vs.toArray n) ∈ news) (hd : DatAll l vs (xs.map Dat.str)) (hn : xs.length ≤ 3) (hx : ∀ x ∈ xs, x.length ≤ 200) (hs : sep.length ≤ 1)
    (h : ∀ t' k, Q (.str (Txt.join sep xs) t') { s with toks := k }) : wpAny (model prog w) A (call (.builtin "str.join") [.str sep t, .ref D]) Q E s := by
  obtain ⟨ps, rfl, hp⟩ := str_vals hd
  refine SC.join (News.isList N hm) hp ?_ h
  unfold JoinOk
  rw [StrLaws.joinFits hx ?_]
  · rfl
  · have h1 : xs.length * 200 ≤ 3 * 200 := Nat.mul_le_mul_right _ hn
    have h2 : xs.length * sep.length ≤ 3 * 1 := Nat.mul_le_mul hn hs
    omega
theorem compP_ind {prog : Program} {w : World} {A : Around} {h₀ : Heap} {L : Addr} {m : PySem.Str → Option Value} {env : Env} {elt : PySem.Expr} {x x₂ : PySem.Str} {scope : Scope} {cl : List (PySem.Str × Addr)} {s : Shared} {S : Ledger → Prop} {P : Nat → Value → Prop} {Fin : List Value → Ledger → Prop}
    (I : Nat → Nat → List Value → Ledger → Prop) (zero : ∀ i ys news, I 0 i ys news → Fin ys news)
    (succ : ∀ k i ys news, I (k + 1) i ys news → (∀ ys' news', I k (i + 1) ys' news' → LCp.CompRestP prog w A h₀ L m env elt x x₂ scope cl s S P Fin k (i + 1) ys' news') → LCp.CompRestP prog w A h₀ L m env elt x x₂ scope cl s S P Fin (k + 1) i ys news) :
    ∀ k i ys news, I k i ys news → LCp.CompRestP prog w A h₀ L m env elt x x₂ scope cl s S P Fin k i ys news
  | 0, i, ys, news, h => zero i ys news h
  | k + 1, i, ys, news, h => succ k i ys news h fun ys' news' h' => compP_ind I zero succ k (i + 1) ys' news' h'
theorem fld_split {tl : Ledger} : ∀ {ys : List Value} {fs : List (PySem.Str × Dat)}, DatAll tl ys (fs.map fdD) → ∃ ws vs : List Value, DatAll tl ws ((fs.map (·.1)).map Dat.str) ∧ DatAll tl vs (fs.map (·.2)) ∧ ws.length = ys.length ∧ vs.length = ys.length ∧
    ∀ (i : Nat) y, ys[i]? = some y → ∃ (a : Addr) (n : Nat) (w v : Value), y = .ref a ∧ (a, ({ cls := .type "tuple", data := .seq #[w, v] n } : Obj)) ∈ tl ∧ ws[i]? = some w ∧ vs[i]? = some v
  | [], [], _ => ⟨[], [], .nil, .nil, rfl, rfl, fun _ _ h => nomatch h⟩
  | y :: ys, f :: fs, .cons h r => by
    obtain ⟨ws, vs, h1, h2, h3, h4, h5⟩ := fld_split r
    cases h with
    | tuple hm hd =>
    cases hd with
    | cons hw hd =>
    cases hd with
    | cons hv hd =>
    cases hd
    rename_i a n w v
    refine ⟨w :: ws, v :: vs, .cons hw h1, .cons hv h2, by simp [h3], by simp [h4], fun i y hy => ?_⟩
    cases i with
    | zero => cases hy; exact ⟨a, n, w, v, rfl, hm, rfl, rfl⟩
    | succ i => exact h5 i y hy
theorem take_succ' {l : List Value} {i : Nat} {v : Value} (h : l[i]? = some v) : l.take (i + 1) = l.take i ++ [v] := by
  obtain ⟨hi, rfl⟩ := List.getElem?_eq_some_iff.mp h
  exact (List.take_append_getElem hi).symm
theorem comp_sel {prog : Program} {w : World} {A : Around} {h₀ : Heap} {L : Addr} {m : PySem.Str → Option Value} {env : Env} {y x x₂ : PySem.Str} {pe : Pos} {scope : Scope} {cl : List (PySem.Str × Addr)} {s : Shared} {Fin : List Value → Ledger → Prop} {news : Ledger} {fl : Addr} {ys res : List Value} {fn : Nat} (sel : Value → Value → Value)
    (hres : res.length = ys.length) (hfl : (fl, listOf ys.toArray fn) ∈ news)
    (hat : ∀ (i : Nat) yv, ys[i]? = some yv → ∃ (a : Addr) (n : Nat) (w v : Value), yv = .ref a ∧ (a, ({ cls := .type "tuple", data := .seq #[w, v] n } : Obj)) ∈ news ∧ res[i]? = some (sel w v))
    (hy : ∀ (m₂ : PySem.Str → Option Value) w v, m₂ x = some w → m₂ x₂ = some v → m₂ y = some (sel w v))
    (hk : ∀ C, (compEnvC scope cl C env).scope.kind = .function) (hl : ∀ C, (compEnvC scope cl C env).kindOf y = some .local) (hd : (y == ("__debug__" : PySem.Str)) = false) (hfin : Fin res news) :
    LCp.CompRestP prog w A h₀ L m env (.Name y pe) x x₂ scope cl s (LCg.SrcAt h₀ fl ys.toArray) (fun i v => ys.toArray[i]? = some v) Fin ys.toArray.size 0 [] news := by
  refine compP_ind (fun k i ys' news' => k + i = ys.length ∧ ys' = res.take i ∧ news' = news) ?zero ?succ ys.toArray.size 0 [] news ⟨by simp, by simp, rfl⟩
  case zero =>
    rintro i ys' _ ⟨hi, rfl, rfl⟩
    rw [List.take_of_length_le (by omega)]
    exact hfin
  case succ =>
    rintro k i ys' _ ⟨hi, rfl, rfl⟩ IH
    refine LCp.CompRestP.succ fun v hv => ?_
    have hv' : ys[i]? = some v := by simpa using hv
    obtain ⟨a, n, w1, v1, rfl, hm, hr⟩ := hat i v hv'
    refine ⟨a, _, w1, v1, n, rfl, hm, rfl, rfl, ?_⟩
    intro I oI C oC D m₂ h tk E' hC hx hx2 F N off ne
    refine LCgL.ld_own N (.tail _ (.head _)) hC (hy m₂ w1 v1 hx hx2) ?_ (hk C) (hl C) hd
    exact LCg.CompEnd.intro F N _ (fun p hp => hp) off (.inr ⟨_, hfl, rfl, fn, rfl⟩) (IH _ _ ⟨by omega, (take_succ' hr).symm, rfl⟩)
theorem sub_x131 {a b c : Addr × Obj} {l : Ledger} : ∀ p ∈ b :: l, p ∈ a :: b :: c :: l := fun p hp => .tail _ (by
  rcases List.mem_cons.mp hp with rfl | hp
  · exact .head _
  · exact .tail _ (.tail _ hp))
theorem s3 (w : World) (st : Stmt) (sc : Scope) (hst : turnSt w.params 3 = some st) (hsc : lawScope w.params = some sc)
   (L fa : Addr) (rest : Ledger) (fl : Addr) (ys : List Value) (fn : Nat) (fs : List (PySem.Str × Dat)) (tl0 : Ledger) (ht0 : ∀ p ∈ tl0, p ∈ rest) (hfd : DatAll tl0 ys (fs.map fdD)) (hfl : (fl, listOf ys.toArray fn) ∈ rest) (hfn : fs.length ≤ 3) (hfW : ∀ p ∈ fs, p.1.length ≤ 200)
   {mean : ExcName → Option Value} {mg mb : PySem.Str → Option Value} {h₀ : Heap} {m : PySem.Str → Option Value} {s : Shared} {Q : Flow → Shared → Prop} {E : Value → Shared → Prop} (hm : Has m [(Str.ofString "fields", .ref fl)])
   (B : Below callerA h₀ [] h₀) (F : Fr h₀ L s.heap m) (X : (MineH.K w.params).In h₀) (N : News h₀ L s.heap rest) (T : Top topProg topLs mean mg mb h₀)
   (hQ : ∀ (vl : Addr) (vs : List Value) (tr : Tok), DatAll tl0 vs (fs.map (·.2)) → (∀ p ∈ rest, p.1 ≠ vl) → ∀ h' tk', Fr h₀ L h' (fun y => if y = Str.ofString "row" then some (.str (Txt.join (Str.ofString ",") (fs.map (·.1))) tr) else if y = Str.ofString "values" then some (.ref vl) else m y) → News h₀ L h' ((vl, listOf vs.toArray vs.length) :: rest) → Q .next { s with heap := h', toks := tk' }) :
   wpAny (model PySem.Challenge.rw_pf0007_01.row.prog w) (callerA.deeper (envOfC (Str.ofString "law") sc L fa (.ref 252))) (exec st (envOfC (Str.ofString "law") sc L fa (.ref 252))) Q E s := by
  obtain ⟨m0, rfl⟩ : ∃ m0, m = fmu [(Str.ofString "fields", .ref fl)] m0 := ⟨m, fmu_eq hm⟩
  conv at hst => lhs; whnf
  conv at hsc => lhs; whnf
  cases hst
  cases hsc
  obtain ⟨ws, vs, hws, hvs, hwl, hvl, hat⟩ := fld_split hfd
  have hyl := DatAll.length hfd
  rw [List.length_map] at hyl
  k_steps
  unfold Hold
  k_dflt (refine LCp.ListComp_P (F₀ := F) (by with_unfolding_all rfl) (by decide) (by rfl) (by decide) (by rfl) (by rfl) (by decide) ?_)
  k_steps
  unfold Hold
  have hsz : ys.toArray.size ≤ sizeLine := Nat.le_trans (show ys.toArray.size ≤ 3 by rw [List.size_toArray]; omega) (Nat.le_of_ble_eq_true rfl)
  refine LCp.SrcLP.ledger (by rfl) F N hfl hsz (fun g => ?_)
  refine comp_sel (fun a _ => a) hwl hfl (fun i yv h => by obtain ⟨a, n, w1, v1, e1, e2, e3, e4⟩ := hat i yv h; exact ⟨a, n, w1, v1, e1, ht0 _ e2, e3⟩) (fun _ _ _ h _ => h) (fun _ => rfl) (fun _ => rfl) (by decide) ?_
  intro D1 h1 tk1 F1 N1 o1
  k_steps
  unfold Hold
  refine join_D N1 (.head _) hws (by rw [List.length_map]; exact hfn) (fun x hx => by obtain ⟨p, hp, rfl⟩ := List.mem_map.mp hx; exact hfW p hp) (by decide +kernel) ?_
  intro tr kr
  k_steps
  unfold Hold
  k_dflt (refine LCp.ListComp_P (F₀ := F1) (by with_unfolding_all rfl) (by decide) (by rfl) (by decide) (by rfl) (by rfl) (by decide) ?_)
  k_steps
  unfold Hold
  refine LCp.SrcLP.ledger (by rfl) F1 (N1) (.tail _ hfl) hsz (fun g => ?_)
  refine comp_sel (fun _ a => a) hvl (.tail _ hfl) (fun i yv h => by obtain ⟨a, n, w1, v1, e1, e2, e3, e4⟩ := hat i yv h; exact ⟨a, n, w1, v1, e1, .tail _ (ht0 _ e2), e4⟩) (fun _ _ _ _ h => h) (fun _ => rfl) (fun _ => rfl) (by decide) ?_
  intro D2 h2 tk2 F2 N2 o2
  k_steps
  exact hQ D2 vs tr hvs (off1_mem o2.2) _ _ (by k_asm) (cb_drop (by k_asm) sub_x131)
/-- the value that fits a kind -/
noncomputable def goodD (k : PySem.Str) : Dat := if (k == kText) = true then .str (Str.ofString "7") else .tuple [.int 7, .int 0]
theorem rep_strs (y : PySem.Str) (t : Tok) : ∀ k : Nat, (List.replicate k [Value.str y t]).flatten = strValues (List.replicate k (y, t))
  | 0 => rfl
  | k + 1 => by rw [List.replicate_succ, List.flatten_cons, rep_strs y t k]; rfl
theorem join_rep {prog : Program} {w : World} {A : Around} {E : Value → Shared → Prop} {s : Shared} {D : Addr} {k : Nat} {t u : Tok} {Q : Value → Shared → Prop} (hl : s.heap.IsList D (List.replicate k [Value.str (Str.ofString "7") u]).flatten.toArray) (hk : k ≤ 3)
    (h : ∀ t' j, Q (.str (Txt.join (Str.ofString ",") (List.replicate k (Str.ofString "7"))) t') { s with toks := j }) : wpAny (model prog w) A (call (.builtin "str.join") [.str (Str.ofString ",") t, .ref D]) Q E s := by
  rw [rep_strs] at hl
  refine SC.join hl (by rw [List.map_replicate]) ?_ h
  have : k = 0 ∨ k = 1 ∨ k = 2 ∨ k = 3 := by omega
  rcases this with rfl | rfl | rfl | rfl <;> decide +kernel
theorem s4_perm {a I C D : Addr × Obj} {tl rest : Ledger} : ∀ p ∈ I :: C :: D :: ((tl ++ [a]) ++ rest), p ∈ a :: I :: C :: D :: (tl ++ rest) := by
  intro p hp
  simp only [List.mem_cons, List.mem_append, List.not_mem_nil, or_false] at hp ⊢
  rcases hp with h | h | h | (h | h) | h <;> simp [h]
theorem s4 (w : World) (st : Stmt) (sc : Scope) (hst : turnSt w.params 4 = some st) (hsc : lawScope w.params = some sc)
   (L fa : Addr) (om : Obj) (rest : Ledger) (r : Nat) (tm : Tok) (hr3 : r < 3) (homd : om.data = .cell (some (.int (1 + (r : Int)) tm))) (hom : (L + 1 + 1, om) ∈ rest)
   (kl : Addr) (kvs : List Value) (ks : List PySem.Str) (hkn : ks.length = r + 1) (hkd : ∀ l, DatAll l kvs (ks.map Dat.str)) (hkl : (kl, listOf kvs.toArray kvs.length) ∈ rest)
   {mean : ExcName → Option Value} {mg mb : PySem.Str → Option Value} {h₀ : Heap} {m : PySem.Str → Option Value} {s : Shared} {Q : Flow → Shared → Prop} {E : Value → Shared → Prop} (hm : Has m [(Str.ofString "kinds", .ref kl)])
   (B : Below callerA h₀ [] h₀) (F : Fr h₀ L s.heap m) (X : (MineH.K w.params).In h₀) (N : News h₀ L s.heap rest) (T : Top topProg topLs mean mg mb h₀)
   (hQ : ∀ (gl : Addr) (gs : List Value) (tl : Ledger) (tr : Tok), DatAll tl gs (ks.map goodD) → (∀ q ∈ rest, ∀ p ∈ tl, q.1 < p.1) → (∀ p ∈ tl ++ rest, p.1 ≠ gl) → ∀ h' tk', Fr h₀ L h' (fun y => if y = Str.ofString "fit" then some (.str (Txt.join (Str.ofString ",") (List.replicate (r + 1) (Str.ofString "7"))) tr) else if y = Str.ofString "good" then some (.ref gl) else m y) → News h₀ L h' ((gl, listOf gs.toArray gs.length) :: (tl ++ rest)) → Q .next { s with heap := h', toks := tk' }) :
   wpAny (model PySem.Challenge.rw_pf0007_01.row.prog w) (callerA.deeper (envOfC (Str.ofString "law") sc L fa (.ref 252))) (exec st (envOfC (Str.ofString "law") sc L fa (.ref 252))) Q E s := by
  obtain ⟨m0, rfl⟩ : ∃ m0, m = fmu [(Str.ofString "kinds", .ref kl)] m0 := ⟨m, fmu_eq hm⟩
  conv at hst => lhs; whnf
  conv at hsc => lhs; whnf
  cases hst
  cases hsc
  k_steps
  unfold Hold
  have hl9 := (show Heap.IsList _ _ (List.replicate (1 + (r : Int)).toNat _).flatten.toArray from by with_reducible assumption)
  rw [show (1 + (r : Int)).toNat = r + 1 by omega] at hl9
  refine join_rep hl9 (by omega) ?_
  intro tr kr
  k_steps
  unfold Hold
  (with_reducible rename Fr _ _ _ _ => F1)
  (with_reducible rename News _ _ _ _ => N1)
  replace N1 := cb_drop N1 sub_tail1
  k_dflt (refine LCg.ListComp_U (F₀ := F1) (by with_unfolding_all rfl) (by decide) (by rfl) (by decide) (by rfl) ?_)
  k_steps
  unfold Hold
  have hkl0 : kvs.length = r + 1 := by have := DatAll.length (hkd []); rw [List.length_map] at this; omega
  refine LCg.CompSrc.ledger (by rfl) F1 N1 hkl (Nat.le_trans (show kvs.toArray.size ≤ 3 by rw [List.size_toArray]; omega) (Nat.le_of_ble_eq_true rfl)) (fun g => ?_)
  refine comp_ind (fun k i ys' news' => k + i = r + 1 ∧ ∃ tl, DatAll tl ys' ((ks.take i).map goodD) ∧ (∀ q ∈ rest, ∀ p ∈ tl, q.1 < p.1) ∧ news' = tl ++ rest) ?zero ?succ kvs.toArray.size 0 [] _ ⟨by rw [List.size_toArray]; omega, [], .nil, (fun _ _ _ h => nomatch h), rfl⟩
  case zero =>
    rintro i ys' _ ⟨hi, tl, hd, hord, rfl⟩ D h tk F2 N2 o2
    rw [List.take_of_length_le (by omega)] at hd
    k_steps
    exact hQ D ys' tl tr hd hord (off1_mem o2) _ _ (by k_asm) (cb_drop (by k_asm) sub_tail1)
  case succ =>
    rintro k i ys' _ ⟨hi, tl, hd, hord, rfl⟩ IH
    refine LCg.CompRest.succ ?_
    intro v I oI C oC D m₂ h tk E' hv hC hx F2 N2 off ne
    obtain ⟨kk, hkk, hvk⟩ : ∃ kk, ks[i]? = some kk ∧ ∃ t, v = .str kk t := by
      obtain ⟨p, hp1, hp2⟩ := datAll_at (f := Dat.str) (hkd []) (j := i) (v := v) (by simpa using hv)
      refine ⟨p, hp1, ?_⟩
      cases hp2 with
      | str _ t => exact ⟨t, rfl⟩
    obtain ⟨tv, rfl⟩ := hvk
    have htk : ks.take (i + 1) = ks.take i ++ [kk] := by
      obtain ⟨hi', rfl⟩ := List.getElem?_eq_some_iff.mp hkk
      exact (List.take_append_getElem hi').symm
    have hlt : ∀ {q : Addr × Obj}, q ∈ (I, oI) :: (C, oC) :: (D, LCg.lst ys') :: (tl ++ rest) → @LT.lt Nat _ q.1 h.objs.size := fun hq => Heap.lt_size (N2 _ hq).1
    k_steps
    · unfold Hold
      refine LCg.CompEnd.intro (by k_asm) (by k_asm) (tl ++ rest) (fun p hp => hp) off (.inr ⟨_, List.mem_append.mpr (.inr hkl), rfl, kvs.length, rfl⟩) (IH _ _ ⟨by omega, tl, ?_, hord, rfl⟩)
      rw [htk, List.map_append]
      refine DatAll.append hd (.cons ?_ .nil)
      rw [goodD, if_pos (by with_reducible assumption)]
      exact .str _ _
    · unfold Hold
      refine LCg.CompEnd.intro (by k_asm) (by k_asm) ((tl ++ [(h.objs.size, tupO [.int 7 _, .int 0 _])]) ++ rest) s4_perm ?_ (.inr ⟨_, List.mem_append.mpr (.inr hkl), rfl, kvs.length, rfl⟩) (IH _ _ ⟨by omega, tl ++ [(h.objs.size, tupO [.int 7 _, .int 0 _])], ?_, ?_, rfl⟩)
      · refine LCg.Off3.of fun p hp => ?_
        rcases List.mem_append.mp hp with hp | hp
        · rcases List.mem_append.mp hp with hp | hp
          · exact off.mem p (List.mem_append.mpr (.inl hp))
          · rw [List.mem_singleton.mp hp]
            exact ⟨Nat.ne_of_gt (hlt (.head _)), Nat.ne_of_gt (hlt (.tail _ (.head _))), Nat.ne_of_gt (hlt (.tail _ (.tail _ (.head _))))⟩
        · exact off.mem p (List.mem_append.mpr (.inr hp))
      · rw [htk, List.map_append]
        refine DatAll.append (hd.mono fun p hp => List.mem_append.mpr (.inl hp)) (.cons ?_ .nil)
        have e : goodD kk = .tuple [.int 7, .int 0] := by rw [goodD, if_neg]; rw [show (kk == kText) = false by with_reducible assumption]; exact Bool.false_ne_true
        rw [e]
        exact .tuple (List.mem_append.mpr (.inr (.head _))) (.cons (.int _ _) (.cons (.int _ _) .nil))
      · intro q hq p hp
        rcases List.mem_append.mp hp with hp | hp
        · exact hord q hq p hp
        · rw [List.mem_singleton.mp hp]
          exact hlt (.tail _ (.tail _ (.tail _ (List.mem_append.mpr (.inr hq)))))
end Mine
end
section
namespace Mine
theorem kw_LT3_0 : True := by
  k_with_none
  w_top off
  k_with "KALL" => (first | exact List.forall_mem_nil _ | with_reducible assumption | (refine' List.forall_mem_cons.mpr ⟨?a, ?b⟩; (case a => k_ne); (case b => k_all)))
  k_with "KMEM" => (first | with_reducible assumption | (change (_ : Addr × Obj) ∈ (_ : List (Addr × Obj)); with_reducible assumption) | exact List.mem_append.mpr (.inl (by with_reducible assumption)) | (refine List.mem_append.mpr (.inr ?_); k_mem))
  k_with "exec Assign" => walk_at "FOLD"
  k_with "exec Return some" => walk_at "FOLD"
  k_with "exec If" => walk_at "FOLD"
  k_with "exec AugAssign" => walk_at "FOLD"
  k_with "exec Expr" => walk_at "FOLD"
  k_with "eval Tuple" => walk_at "FOLD"
  k_with "eval List" => walk_at "FOLD"
  k_with "eval BinOp" => walk_at "FOLD"
  k_with "eval Call" => walk_at "FOLD"
  k_with "eval Subscript" => walk_at "FOLD"
  k_with "eval IfExp" => walk_at "FOLD"
  k_with "isTrue BoolOp" => walk_at "FOLD"
  k_with "isTrue Compare" => walk_at "FOLD"
  k_with "eval Call Attribute" => walk_at "FOLD"
  k_with "FOLD" => ((fail_if_success (fail_if_success k_fold)); refine (let qk := _; let ek := _; (?_ : wpAny _ _ _ qk ek _)))
  k_with "execs cons" => (refine wp_tk s ?_; intro _)
  k_with "WEANY" => first | with_reducible assumption | exact WE.setRow (by with_reducible assumption) | exact WE.setInputs (by with_reducible assumption) | exact WE.setSpot (by with_reducible assumption) | exact WE.setData (by with_reducible assumption)
  k_with "WEGET" => first | exact WE.inputs (by with_reducible assumption) | exact WE.out (by with_reducible assumption) | exact WE.row (by with_reducible assumption) | exact WE.data (by with_reducible assumption) | exact WE.spot (by with_reducible assumption) | exact (putL_found (WE.row (by with_reducible assumption))).2.1 | exact (putL_found (WE.row (by with_reducible assumption))).2.2 _ _ (by decide +kernel) (WE.out (by with_reducible assumption)) | exact (putL_found (WE.row (by with_reducible assumption))).2.2 _ _ (by decide +kernel) (WE.inputs (by with_reducible assumption))
  k_with "getAttr ref" => (k_here; k_dflt (refine' get_own ?k1 ?k2 ?k3 ?k4 ?k5 ?k6 ?k7 ?k8 ?k9 ?_; (case k1 => k_asm); (case k2 => k_asm); (case k3 => k_inst); (case k4 => k_is); (case k5 => k_is); (case k6 => k_is); (case k7 => k_is); (case k8 => walk_at "WEGET"); (case k9 => k_handed); k_whole))
  k_with "WELEN" => exact Nat.le_trans (Nat.le_of_eq (putL_found (by walk_at "WEGET")).1) (Nat.le_trans (WE.len (by with_reducible assumption)) (by decide))
  k_with "setAttr ref" => (k_here; k_dflt (refine' set_dict ?k1 ?k2 ?k3 ?k4 ?k5 ?k6 ?k7 ?k8 ?k9 ?k10 ?k11 ?k12 ?k13 ?_; (case k1 => k_asm); (case k2 => k_asm); (case k3 => k_asm); (case k4 => k_inst); (case k5 => exact rfl); (case k6 => k_is); (case k7 => k_is); (case k8 => k_is); (case k9 => k_is); (case k10 => exact we_some (by walk_at "WEGET")); (case k11 => exact rfl); (case k12 => k_upd); (case k13 => walk_at "WELEN"); k_whole); intro h' F' N'; (try k_sweep))
  k_with "eval ListComp" => (refine hold ?_)
  k_with "SrcLP" => (refine hold ?_)
  k_with "CompEnd" => (refine hold ?_)
  k_with "CompSrc" => (refine hold ?_)
  k_with "call builtin:str.join" => (refine hold ?_)
  trivial
theorem ne_same {prog : Program} {w : World} {A : Around} {E : Value → Shared → Prop} {s : Shared} {h₀ : Heap} {L : Addr} {news : Ledger} {v u : Value} {d : Dat} {Q : Value → Shared → Prop}
    (N : News h₀ L s.heap news) (Dv : DatIn news v d) (Du : DatIn news u d) (hd : kqdOk 8 d = true) (hu : A.units + 64 < cLine) (h : Q (.bool false) s) : wpAny (model prog w) A (compareOp .NotEq v u) Q E s := by
  obtain ⟨as, ra⟩ := kqd_in N 8 Dv hd
  obtain ⟨bs, rb⟩ := kqd_in N 8 Du hd
  have la := kqd_lay 8 d hd
  have q : PyData.eqv (kqdP d) (kqdP d) = true := (kqd_eqv 8 d d 8 hd hd).mpr rfl
  have sh : SeqAt.shaped (kqdP d) = true := by unfold SeqAt.shaped; rw [la.1, Bool.true_and]; exact decide_eq_true (Nat.le_trans la.2 (by decide))
  refine ne_dataH ra rb sh sh hu ?_
  rw [q]
  exact h
open Classical in
theorem none_in {prog : Program} {w : World} {A : Around} {E : Value → Shared → Prop} {s : Shared} {h₀ : Heap} {L a : Addr} {news : Ledger} {vs : List Value} {n : Nat} {ds : List Dat} {b : Bool} {Q : Value → Shared → Prop}
    (N : News h₀ L s.heap news) (ma : (a, listOf vs.toArray n) ∈ news) (Da : DatAll news vs ds) (hd : ∀ d ∈ ds, kqdOk 8 d = true) (hb : b = true ↔ Dat.none ∉ ds) (hu : A.units + 64 < cLine) (h : Q (.bool b) s) : wpAny (model prog w) A (compareOp .NotIn .none (.ref a)) Q E s := by
  refine kqd_notIn N ma rfl rfl Da (fun _ h => h) DatIn.none (fun _ h => h) hd rfl hu ?_
  have e : (!decide (Dat.none ∈ ds)) = b := by
    by_cases hq : Dat.none ∈ ds
    · rw [decide_eq_true hq]
      cases b with
      | false => rfl
      | true => exact absurd hq (hb.mp rfl)
    · rw [decide_eq_false hq]
      exact (hb.mpr hq).symm
  rw [e]
  exact h
theorem kw_LT3_1 : True := by
  k_with "compareOp NotIn" => (refine hold ?_)
  k_with "compareOp NotEq" => (refine hold ?_)
  trivial
theorem s5_perm {a b c d : Addr × Obj} {l : Ledger} : ∀ p ∈ c :: d :: b :: l, p ∈ a :: b :: c :: d :: l := fun p hp => by
  simp only [List.mem_cons] at hp ⊢
  rcases hp with h | h | h | h <;> simp [h]
theorem s5 (w : World) (st : Stmt) (sc : Scope) (hst : turnSt w.params 5 = some st) (hsc : lawScope w.params = some sc)
   (L fa : Addr) (rest : Ledger) (x d : Addr) (es : List DictEntry) (n : Nat) (il ol dl : Addr) (rt st0 : Tok) (row fit : PySem.Str) (tr tf : Tok) (vl : Addr) (vs : List Value) (vn : Nat) (ds : List Dat) (b : Bool)
   (W : WE es il ol dl (Str.ofString "") rt 0 st0) (hx : ∀ p ∈ rest, p.1 ≠ x) (hd' : ∀ p ∈ rest, p.1 ≠ d) (dx : @LT.lt Nat _ d x)
   (hvl : (vl, listOf vs.toArray vn) ∈ rest) (hvs : DatAll rest vs ds) (hok : ∀ d ∈ ds, kqdOk 8 d = true) (hb : b = true ↔ Dat.none ∉ ds)
   {mean : ExcName → Option Value} {mg mb : PySem.Str → Option Value} {h₀ : Heap} {m : PySem.Str → Option Value} {s : Shared} {Q : Flow → Shared → Prop} {E : Value → Shared → Prop} (hm : Has m [(Str.ofString "row", .str row tr), (Str.ofString "fit", .str fit tf), (Str.ofString "values", .ref vl), (Str.ofString "world", .ref x)])
   (B : Below callerA h₀ [] h₀) (F : Fr h₀ L s.heap m) (X : (MineH.K w.params).In h₀) (N : News h₀ L s.heap ((x, instObj 216 d) :: (d, dictOf es n) :: rest)) (T : Top topProg topLs mean mg mb h₀)
   (hQ : ∀ (il' : Addr) (es' : List DictEntry) (n' : Nat) (t1 : Tok), WE es' il' ol dl (Str.ofString "") rt 0 st0 → (∀ p ∈ (x, instObj 216 d) :: (d, dictOf es n) :: rest, p.1 < il') → ∀ h' tk', Fr h₀ L h' (fun y => if y = Str.ofString "is_right" then some (.bool b) else m y) → News h₀ L h' ((x, instObj 216 d) :: (d, dictOf es' n') :: (il', listOf [Value.str row tr, .str fit tf, .str (Str.ofString "left") t1].toArray 0) :: rest) → Q .next { s with heap := h', toks := tk' }) :
   wpAny (model PySem.Challenge.rw_pf0007_01.row.prog w) (callerA.deeper (envOfC (Str.ofString "law") sc L fa (.ref 252))) (exec st (envOfC (Str.ofString "law") sc L fa (.ref 252))) Q E s := by
  obtain ⟨m0, rfl⟩ : ∃ m0, m = fmu [(Str.ofString "row", .str row tr), (Str.ofString "fit", .str fit tf), (Str.ofString "values", .ref vl), (Str.ofString "world", .ref x)] m0 := ⟨m, fmu_eq hm⟩
  conv at hst => lhs; whnf
  conv at hsc => lhs; whnf
  cases hst
  cases hsc
  k_steps
  unfold Hold
  refine none_in (by k_asm) (.tail _ (.tail _ (.tail _ hvl))) (hvs.mono fun p hp => .tail _ (.tail _ (.tail _ hp))) hok hb (by k_dflt (exact Nat.le_of_ble_eq_true rfl)) ?_
  k_steps
  have l := (show _ ∧ _ ∧ AllLt _ rest from by with_reducible assumption)
  exact hQ _ _ _ _ (WE.setInputs W) (List.forall_mem_cons.mpr ⟨l.1, List.forall_mem_cons.mpr ⟨l.2.1, ktn_ltOf l.2.2⟩⟩) _ _ (by k_asm) (cb_drop (by k_asm) s5_perm)
end Mine
end
section
namespace Mine
theorem kw_LT4_0 : True := by
  k_with_none
  w_top off
  k_with "KALL" => (first | exact List.forall_mem_nil _ | with_reducible assumption | (refine' List.forall_mem_cons.mpr ⟨?a, ?b⟩; (case a => k_ne); (case b => k_all)))
  k_with "KMEM" => (first | with_reducible assumption | (change (_ : Addr × Obj) ∈ (_ : List (Addr × Obj)); with_reducible assumption) | exact List.mem_append.mpr (.inl (by with_reducible assumption)) | (refine List.mem_append.mpr (.inr ?_); k_mem))
  k_with "exec Assign" => walk_at "FOLD"
  k_with "exec Return some" => walk_at "FOLD"
  k_with "exec If" => walk_at "FOLD"
  k_with "exec AugAssign" => walk_at "FOLD"
  k_with "exec Expr" => walk_at "FOLD"
  k_with "eval Tuple" => walk_at "FOLD"
  k_with "eval List" => walk_at "FOLD"
  k_with "eval BinOp" => walk_at "FOLD"
  k_with "eval Call" => walk_at "FOLD"
  k_with "eval Subscript" => walk_at "FOLD"
  k_with "eval IfExp" => walk_at "FOLD"
  k_with "isTrue BoolOp" => walk_at "FOLD"
  k_with "isTrue Compare" => walk_at "FOLD"
  k_with "eval Call Attribute" => walk_at "FOLD"
  k_with "FOLD" => ((fail_if_success (fail_if_success k_fold)); refine (let qk := _; let ek := _; (?_ : wpAny _ _ _ qk ek _)))
  k_with "execs cons" => (refine wp_tk s ?_; intro _)
  k_with "eval ListComp" => (refine hold ?_)
  k_with "SrcLP" => (refine hold ?_)
  k_with "CompEnd" => (refine hold ?_)
  k_with "CompSrc" => (refine hold ?_)
  k_with "call builtin:str.join" => (refine hold ?_)
  k_with "eval Lambda" => (refine hold ?_)
  k_with "call ref" => (refine hold ?_)
  trivial
theorem s6_perm1 {a b c d : Addr × Obj} {u l : Ledger} : ∀ p ∈ u ++ (a :: b :: c :: d :: l), p ∈ a :: b :: c :: d :: (u ++ l) := fun p hp => by
  simp only [List.mem_cons, List.mem_append] at hp ⊢
  rcases hp with h | h | h | h | h | h <;> simp [h]
theorem s6_perm2 {a b c d f : Addr × Obj} {u l : Ledger} : ∀ p ∈ a :: b :: c :: d :: (f :: (u ++ l)), p ∈ f :: (u ++ (a :: b :: c :: d :: l)) := fun p hp => by
  simp only [List.mem_cons, List.mem_append] at hp ⊢
  rcases hp with h | h | h | h | h | h | h <;> simp [h]
theorem s6_perm3 {a b c d e f : Addr × Obj} {t u l : Ledger} : ∀ p ∈ e :: (t ++ a :: b :: c :: d :: (u ++ l)), p ∈ e :: (t ++ a :: b :: c :: d :: (f :: (u ++ l))) := fun p hp => by
  simp only [List.mem_cons, List.mem_append] at hp ⊢
  rcases hp with h | h | h | h | h | h | h | h <;> simp [h]
theorem s6_perm1' {a b c d : Addr × Obj} {u l : Ledger} : ∀ p ∈ a :: b :: c :: d :: (u ++ l), p ∈ u ++ (a :: b :: c :: d :: l) := fun p hp => by
  simp only [List.mem_cons, List.mem_append] at hp ⊢
  rcases hp with h | h | h | h | h | h <;> simp [h]
noncomputable def posL : Pos := { line := 253, col := 52, endLine := 253, endCol := 88 }
/-- what was written by the time the row was taken -/
noncomputable def outD (b : Bool) : List Dat := if b then [.str (Str.ofString "N? ")] else [.str (Str.ofString "N? "), .str (Str.ofString "?Redo from start"), .str (Str.ofString "N? ")]
/-- what is left of the rows to read -/
noncomputable def inD (b : Bool) (fit : PySem.Str) : List Dat := if b then [.str fit, .str (Str.ofString "left")] else [.str (Str.ofString "left")]
theorem neN {a b : Addr} (h : @Ne Nat a b) : a ≠ b := h
theorem s6 (w : World) (st : Stmt) (sc : Scope) (hst : turnSt w.params 6 = some st) (hsc : lawScope w.params = some sc)
   (L fa : Addr) (rest : Ledger) (x d : Addr) (es : List DictEntry) (n : Nat) (il ol dl : Addr) (ko ki : Nat) (rt st0 : Tok) (row fit : PySem.Str) (tr tf tl0 : Tok) (kl : Addr) (kvs : List Value) (kn : Nat) (ks : List PySem.Str) (ts : TabSt) (b : Bool) (ds : List Dat)
   (W : WE es il ol dl (Str.ofString "") rt 0 st0) (hx : ∀ p ∈ rest, p.1 ≠ x) (hd' : ∀ p ∈ rest, p.1 ≠ d) (ho : ∀ p ∈ rest, p.1 ≠ ol) (hi : ∀ p ∈ rest, p.1 ≠ il) (dx : @LT.lt Nat _ d x) (xo : @LT.lt Nat _ x ol) (oi : @LT.lt Nat _ ol il)
   (hrow : row.length ≤ 1000) (hfit : fit.length ≤ 1000) (hkl : (kl, listOf kvs.toArray kn) ∈ rest) (hks : DatAll rest kvs (ks.map Dat.str)) (hkn : ks.length ≤ 3)
   (hN1 : ∀ acc, ToldR row 0 [] (some acc) → ∀ p ∈ acc, p.2 = false → (p.1 == PySem.Str.ofString "") = false → NumT p.1) (hN2 : ∀ acc, ToldR fit 0 [] (some acc) → ∀ p ∈ acc, p.2 = false → (p.1 == PySem.Str.ofString "") = false → NumT p.1) (hno : ¬ FitR fit ks none)
   (hF1 : ∀ ds', FitR row ks (some ds') → b = true ∧ ds' = ds) (hF2 : FitR row ks none → b = false) (hF3 : ∀ gd, FitR fit ks (some gd) → gd = ks.map goodD)
   (hTd : ∀ p ∈ tabL 250 posL ts, p.1 < d) (hP : ∀ p ∈ rest, p.1 ≠ 250) (hT : TabOk (qualL "law") ts)
   {mean : ExcName → Option Value} {mg mb : PySem.Str → Option Value} {h₀ : Heap} {m : PySem.Str → Option Value} {s : Shared} {Q : Flow → Shared → Prop} {E : Value → Shared → Prop} (hm : Has m [(Str.ofString "world", .ref x), (Str.ofString "kinds", .ref kl)])
   (B : Below callerA h₀ [] h₀) (F : Fr h₀ L s.heap m) (X : (MineH.K w.params).In h₀) (N : News h₀ L s.heap ((x, instObj 216 d) :: (d, dictOf es n) :: (ol, listOf [].toArray ko) :: (il, listOf [Value.str row tr, .str fit tf, .str (Str.ofString "left") tl0].toArray ki) :: (tabL 250 posL ts ++ rest))) (T : Top topProg topLs mean mg mb h₀) (C : CodeHd h₀ 252 250)
   (hQ : ∀ (hl : Addr) (hvs ovs ivs : List Value) (hn ko' ki' : Nat) (tl : Ledger) (es' : List DictEntry) (n' : Nat) (t : Tok) (ts' : TabSt), WE es' il ol dl (Str.ofString "") t 0 st0 → TabOk (qualL "law") ts' → (∀ p ∈ tabL 250 posL ts', p.1 < d ∨ il < p.1) → (ts' = ts ∨ ∀ c oc, ts' = .made c oc → ∀ q ∈ (x, instObj 216 d) :: (d, dictOf es n) :: (ol, listOf [].toArray ko) :: (il, listOf [Value.str row tr, .str fit tf, .str (Str.ofString "left") tl0].toArray ki) :: (tabL 250 posL ts ++ rest), q.1 < c) → (∀ q ∈ (x, instObj 216 d) :: (d, dictOf es n) :: (ol, listOf [].toArray ko) :: (il, listOf [Value.str row tr, .str fit tf, .str (Str.ofString "left") tl0].toArray ki) :: (tabL 250 posL ts' ++ rest), ∀ p ∈ (hl, listOf hvs.toArray hn) :: tl, q.1 < p.1) →
     DatAll (nought :: tl) hvs (if b then ds else ks.map goodD) → (∀ l, DatAll l ovs (outD b)) → (∀ l, DatAll l ivs (inD b fit)) →
     ∀ h' tk', Fr h₀ L h' (fun y => if y = Str.ofString "heard" then some (.ref hl) else m y) → News h₀ L h' ((hl, listOf hvs.toArray hn) :: (tl ++ (x, instObj 216 d) :: (d, dictOf es' n') :: (ol, listOf ovs.toArray ko') :: (il, listOf ivs.toArray ki') :: (tabL 250 posL ts' ++ rest))) → Q .next { s with heap := h', toks := tk' }) :
   wpAny (model PySem.Challenge.rw_pf0007_01.row.prog w) (callerA.deeper (envOfC (Str.ofString "law") sc L fa (.ref 252))) (exec st (envOfC (Str.ofString "law") sc L fa (.ref 252))) Q E s := by
  obtain ⟨m0, rfl⟩ : ∃ m0, m = fmu [(Str.ofString "world", .ref x), (Str.ofString "kinds", .ref kl)] m0 := ⟨m, fmu_eq hm⟩
  conv at hst => lhs; whnf
  conv at hsc => lhs; whnf
  cases hst
  cases hsc
  obtain ⟨tps, htp⟩ := tab_mem 250 posL ts
  have P0d : @LT.lt Nat _ 250 d := hTd _ htp
  have dx' : @LT.lt Nat _ d x := dx
  have xo' : @LT.lt Nat _ x ol := xo
  have oi' : @LT.lt Nat _ ol il := oi
  k_steps
  unfold Hold
  have hP4 : ∀ p ∈ (x, instObj 216 d) :: (d, dictOf es n) :: (ol, listOf [].toArray ko) :: (il, listOf [Value.str row tr, .str fit tf, .str (Str.ofString "left") tl0].toArray ki) :: rest, p.1 ≠ 250 :=
    List.forall_mem_cons.mpr ⟨neN (by omega), List.forall_mem_cons.mpr ⟨neN (by omega), List.forall_mem_cons.mpr ⟨neN (by omega), List.forall_mem_cons.mpr ⟨neN (by omega), hP⟩⟩⟩⟩
  k_dflt (refine lam_make (ts := ts) (pos := posL) (news := (x, instObj 216 d) :: (d, dictOf es n) :: (ol, listOf [].toArray ko) :: (il, listOf [Value.str row tr, .str fit tf, .str (Str.ofString "left") tl0].toArray ki) :: rest) (P := 250) F (cb_drop N s6_perm1) T C hT hP4 rfl rfl ?_)
  intro f c' oc pm ctv h3 tk3 F3 N3 hT3 lf lc
  k_steps
  unfold Hold
  have fI : ∀ q ∈ (x, instObj 216 d) :: (d, dictOf es n) :: (ol, listOf [].toArray ko) :: (il, listOf [Value.str row tr, .str fit tf, .str (Str.ofString "left") tl0].toArray ki) :: rest, @LT.lt Nat _ q.1 f := fun q hq => lf q (List.mem_append.mpr (.inr hq))
  have fx : @LT.lt Nat _ x f := fI _ (.head _)
  have fil : @LT.lt Nat _ il f := fI _ (.tail _ (.tail _ (.tail _ (.head _))))
  have hcc : @LT.lt Nat _ c' d ∨ @LT.lt Nat _ il c' := by
    rcases lc with lc | lc
    · exact .inl (hTd (c', oc) (by rw [lc]; exact .tail _ (.head _)))
    · exact .inr (lc _ (List.mem_append.mpr (.inr (.tail _ (.tail _ (.tail _ (.head _)))))))
  have htabD : ∀ p ∈ tabL 250 posL (.made c' oc), @LT.lt Nat _ p.1 d ∨ @LT.lt Nat _ il p.1 := fun p hp => by
    rcases List.mem_cons.mp hp with rfl | hp
    · exact .inl P0d
    · rw [List.mem_singleton.mp hp]; exact hcc
  have big : ∀ (o : Obj) (b : Nat), @LT.lt Nat _ b f → (@LT.lt Nat _ b il ∨ b = il) → (@LT.lt Nat _ d b ∨ b = d) → (∀ p ∈ rest, p.1 ≠ b) → ∀ p ∈ (f, o) :: (tabL 250 posL (.made c' oc) ++ rest), p.1 ≠ b := fun o b h0 h1 h2 h3 p hp e => by
    have e' : @Eq Nat p.1 b := e
    rcases List.mem_cons.mp hp with rfl | hp
    · have e2 : @Eq Nat f b := e; omega
    · rcases List.mem_append.mp hp with hp | hp
      · rcases htabD p hp with h | h <;> omega
      · exact h3 p hp e
  obtain ⟨vsc, tc0, hdc, hvc⟩ := id hT3
  have hmr : ∀ {o : Obj}, ∀ p ∈ rest, p ∈ (f, o) :: (tabL 250 posL (.made c' oc) ++ rest) := fun p hp => .tail _ (List.mem_append.mpr (.inr hp))
  have hTB : ∀ p ∈ tabL 250 posL (.made c' oc), p.1 < d ∨ il < p.1 := htabD
  have hTc : TabSt.made c' oc = ts ∨ ∀ c oc', TabSt.made c' oc = .made c oc' → ∀ q ∈ (x, instObj 216 d) :: (d, dictOf es n) :: (ol, listOf [].toArray ko) :: (il, listOf [Value.str row tr, .str fit tf, .str (Str.ofString "left") tl0].toArray ki) :: (tabL 250 posL ts ++ rest), q.1 < c := by
    rcases lc with lc | lc
    · exact .inl lc.symm
    · exact .inr fun c oc' e q hq => by
        cases e
        exact lc q (s6_perm1' q hq)
  refine Does.use (ask_spec w ((f, _) :: (tabL 250 posL (.made c' oc) ++ rest)) x d ol il es n ko ki dl rt _ tr tf st0 0 st0 row fit (.str (Str.ofString "left") tl0) f kl kvs kn ks W (big _ x fx (.inl (by omega)) (.inl dx') hx) (big _ d (by omega) (.inl (by omega)) (.inr rfl) hd') (big _ ol (by omega) (.inl oi') (.inl (by omega)) ho) (big _ il fil (.inr rfl) (.inl (by omega)) hi) dx xo oi hrow hfit ?hL (hmr _ hkl) (hks.mono hmr) hkn hN1 hN2 hno) B F3 X (cb_drop N3 s6_perm2) T rfl ?kd ?ku ?ret
  case kd => k_dflt (exact Nat.le_of_ble_eq_true rfl)
  case ku => k_dflt (exact Nat.le_of_ble_eq_true rfl)
  case hL => exact ⟨⟨_, c', ctv, pm, _, _, _, _, _, oc, vsc, tc0, .head _, .tail _ (List.mem_append.mpr (.inl (.tail _ (.head _)))), hdc, hvc⟩⟩
  case ret =>
    intro fl vs nf tl es' n' ko' ki' t W' ord1 ord2
    have hord : ∀ q ∈ (x, instObj 216 d) :: (d, dictOf es n) :: (ol, listOf [].toArray ko) :: (il, listOf [Value.str row tr, .str fit tf, .str (Str.ofString "left") tl0].toArray ki) :: (tabL 250 posL (.made c' oc) ++ rest), ∀ p ∈ (fl, listOf vs.toArray nf) :: tl, q.1 < p.1 := fun q hq p hp => by
      have h2 : @LT.lt Nat _ il p.1 := ord2 p hp
      rcases List.mem_cons.mp hq with rfl | hq
      · exact Nat.lt_trans (show @LT.lt Nat _ x il by omega) h2
      · rcases List.mem_cons.mp hq with rfl | hq
        · exact Nat.lt_trans (show @LT.lt Nat _ d il by omega) h2
        · rcases List.mem_cons.mp hq with rfl | hq
          · exact Nat.lt_trans (show @LT.lt Nat _ ol il by omega) h2
          · rcases List.mem_cons.mp hq with rfl | hq
            · exact h2
            · exact ord1 q (.tail _ hq) p hp
    refine ⟨fun ds' t2 hR hD h' tk' F' N' => ?_, fun ds' t2 t3 t4 hR hR2 hD h' tk' F' N' => ?_⟩
    · obtain ⟨rfl, rfl⟩ := hF1 ds' hR
      k_steps
      exact hQ fl vs _ _ nf ko' ki' tl es' n' t (.made c' oc) W' hT3 hTB hTc hord hD (fun l => .cons (.str _ _) .nil) (fun l => .cons (.str _ _) (.cons (.str _ _) .nil)) _ _ (by k_asm) (cb_drop (by k_asm) s6_perm3)
    · obtain rfl := hF2 hR
      obtain rfl := hF3 ds' hR2
      k_steps
      exact hQ fl vs _ _ nf ko' ki' tl es' n' t (.made c' oc) W' hT3 hTB hTc hord hD (fun l => .cons (.str _ _) (.cons (.str _ _) (.cons (.str _ _) .nil))) (fun l => .cons (.str _ _) .nil) _ _ (by k_asm) (cb_drop (by k_asm) s6_perm3)
end Mine
end
section
namespace Mine
theorem kw_LT5_0 : True := by
  k_with_none
  w_top off
  k_with "KALL" => (first | exact List.forall_mem_nil _ | with_reducible assumption | (refine' List.forall_mem_cons.mpr ⟨?a, ?b⟩; (case a => k_ne); (case b => k_all)))
  k_with "KMEM" => (first | with_reducible assumption | (change (_ : Addr × Obj) ∈ (_ : List (Addr × Obj)); with_reducible assumption) | exact List.mem_append.mpr (.inl (by with_reducible assumption)) | (refine List.mem_append.mpr (.inr ?_); k_mem))
  k_with "exec Assign" => walk_at "FOLD"
  k_with "exec Return some" => walk_at "FOLD"
  k_with "exec If" => walk_at "FOLD"
  k_with "exec AugAssign" => walk_at "FOLD"
  k_with "exec Expr" => walk_at "FOLD"
  k_with "eval Tuple" => walk_at "FOLD"
  k_with "eval List" => walk_at "FOLD"
  k_with "eval BinOp" => walk_at "FOLD"
  k_with "eval Call" => walk_at "FOLD"
  k_with "eval Subscript" => walk_at "FOLD"
  k_with "eval IfExp" => walk_at "FOLD"
  k_with "isTrue BoolOp" => walk_at "FOLD"
  k_with "isTrue Compare" => walk_at "FOLD"
  k_with "eval Call Attribute" => walk_at "FOLD"
  k_with "FOLD" => ((fail_if_success (fail_if_success k_fold)); refine (let qk := _; let ek := _; (?_ : wpAny _ _ _ qk ek _)))
  k_with "execs cons" => (refine wp_tk s ?_; intro _)
  k_with "WEANY" => first | with_reducible assumption | exact WE.setRow (by with_reducible assumption) | exact WE.setInputs (by with_reducible assumption) | exact WE.setSpot (by with_reducible assumption) | exact WE.setData (by with_reducible assumption)
  k_with "WEGET" => first | exact WE.inputs (by with_reducible assumption) | exact WE.out (by with_reducible assumption) | exact WE.row (by with_reducible assumption) | exact WE.data (by with_reducible assumption) | exact WE.spot (by with_reducible assumption) | exact (putL_found (WE.row (by with_reducible assumption))).2.1 | exact (putL_found (WE.row (by with_reducible assumption))).2.2 _ _ (by decide +kernel) (WE.out (by with_reducible assumption)) | exact (putL_found (WE.row (by with_reducible assumption))).2.2 _ _ (by decide +kernel) (WE.inputs (by with_reducible assumption))
  k_with "getAttr ref" => (k_here; k_dflt (refine' get_own ?k1 ?k2 ?k3 ?k4 ?k5 ?k6 ?k7 ?k8 ?k9 ?_; (case k1 => k_asm); (case k2 => k_asm); (case k3 => k_inst); (case k4 => k_is); (case k5 => k_is); (case k6 => k_is); (case k7 => k_is); (case k8 => walk_at "WEGET"); (case k9 => k_handed); k_whole))
  k_with "WELEN" => exact Nat.le_trans (Nat.le_of_eq (putL_found (by walk_at "WEGET")).1) (Nat.le_trans (WE.len (by with_reducible assumption)) (by decide))
  k_with "setAttr ref" => (k_here; k_dflt (refine' set_dict ?k1 ?k2 ?k3 ?k4 ?k5 ?k6 ?k7 ?k8 ?k9 ?k10 ?k11 ?k12 ?k13 ?_; (case k1 => k_asm); (case k2 => k_asm); (case k3 => k_asm); (case k4 => k_inst); (case k5 => exact rfl); (case k6 => k_is); (case k7 => k_is); (case k8 => k_is); (case k9 => k_is); (case k10 => exact we_some (by walk_at "WEGET")); (case k11 => exact rfl); (case k12 => k_upd); (case k13 => walk_at "WELEN"); k_whole); intro h' F' N'; (try k_sweep))
  k_with "eval ListComp" => (refine hold ?_)
  k_with "SrcLP" => (refine hold ?_)
  k_with "CompEnd" => (refine hold ?_)
  k_with "CompSrc" => (refine hold ?_)
  k_with "call builtin:str.join" => (refine hold ?_)
  k_with "compareOp NotEq" => (refine hold ?_)
  k_with "compareOp NotEq ref ref" => (refine hold ?_)
  trivial
theorem any_news {h : Heap} {l : Ledger} (hl : ∀ p ∈ l, h.get? p.1 = some p.2) : News ({} : Heap) h.objs.size h l := fun p hp => ⟨hl p hp, Nat.ne_of_lt (Heap.lt_size (hl p hp)), by simp [Heap.get?]⟩
theorem nought_get {P : Params} {h₀ h : Heap} {L : Addr} {m : PySem.Str → Option Value} {news : Ledger} (X : (MineH.K P).In h₀) (F : Fr h₀ L h m) (N : News h₀ L h news) : ∀ p ∈ nought :: news, h.get? p.1 = some p.2 := fun p hp => by
  rcases List.mem_cons.mp hp with rfl | hp
  · exact F.keep _ _ (X 163 nought.2 (by k_dflt k_is))
  · exact (N p hp).1
theorem s7 (w : World) (st : Stmt) (sc : Scope) (hst : turnSt w.params 7 = some st) (hsc : lawScope w.params = some sc)
   (L fa : Addr) (rest : Ledger) (x d : Addr) (es : List DictEntry) (n : Nat) (il ol dl : Addr) (row : PySem.Str) (rt st0 : Tok) (fit : PySem.Str) (tf : Tok) (hl vl gl : Addr) (hvs vs gs ivs : List Value) (hn vn gn ki : Nat) (ds gd : List Dat) (b : Bool)
   (W : WE es il ol dl row rt 0 st0) (hhl : (hl, listOf hvs.toArray hn) ∈ rest) (hvl : (vl, listOf vs.toArray vn) ∈ rest) (hgl : (gl, listOf gs.toArray gn) ∈ rest) (hil : (il, listOf ivs.toArray ki) ∈ rest)
   (hD : DatAll (nought :: rest) hvs (if b then ds else gd)) (hvD : DatAll rest vs ds) (hgD : DatAll rest gs gd) (hiD : ∀ l, DatAll l ivs (inD b fit)) (hok : ∀ d ∈ ds, kqdOk 7 d = true) (hokg : ∀ d ∈ gd, kqdOk 7 d = true) (hof : PyData.strOk fit = true)
   {mean : ExcName → Option Value} {mg mb : PySem.Str → Option Value} {h₀ : Heap} {m : PySem.Str → Option Value} {s : Shared} {Q : Flow → Shared → Prop} {E : Value → Shared → Prop} (hm : Has m [(Str.ofString "heard", .ref hl), (Str.ofString "values", .ref vl), (Str.ofString "good", .ref gl), (Str.ofString "is_right", .bool b), (Str.ofString "world", .ref x), (Str.ofString "fit", .str fit tf)])
   (B : Below callerA h₀ [] h₀) (F : Fr h₀ L s.heap m) (X : (MineH.K w.params).In h₀) (N : News h₀ L s.heap ((x, instObj 216 d) :: (d, dictOf es n) :: rest)) (T : Top topProg topLs mean mg mb h₀)
   (hQ : ∀ h' tk', Fr h₀ L h' m → News h₀ L h' ((x, instObj 216 d) :: (d, dictOf es n) :: rest) → Q .next { s with heap := h', toks := tk' }) :
   wpAny (model PySem.Challenge.rw_pf0007_01.row.prog w) (callerA.deeper (envOfC (Str.ofString "law") sc L fa (.ref 252))) (exec st (envOfC (Str.ofString "law") sc L fa (.ref 252))) Q E s := by
  obtain ⟨m0, rfl⟩ : ∃ m0, m = fmu [(Str.ofString "heard", .ref hl), (Str.ofString "values", .ref vl), (Str.ofString "good", .ref gl), (Str.ofString "is_right", .bool b), (Str.ofString "world", .ref x), (Str.ofString "fit", .str fit tf)] m0 := ⟨m, fmu_eq hm⟩
  conv at hst => lhs; whnf
  conv at hsc => lhs; whnf
  cases hst
  cases hsc
  have hkl : ∀ {e : List Dat}, (∀ d ∈ e, kqdOk 7 d = true) → kqdOk 8 (.list e) = true := fun h => List.all_eq_true.mpr h
  have hr : ∀ p ∈ rest, p ∈ nought :: (x, instObj 216 d) :: (d, dictOf es n) :: rest := fun p hp => .tail _ (.tail _ (.tail _ hp))
  have hr0 : ∀ p ∈ nought :: rest, p ∈ nought :: (x, instObj 216 d) :: (d, dictOf es n) :: rest := fun p hp => by
    rcases List.mem_cons.mp hp with rfl | hp
    · exact .head _
    · exact hr p hp
  have hoki : ∀ d ∈ inD b fit, kqdOk 7 d = true := by
    cases b
    · exact List.forall_mem_cons.mpr ⟨by decide +kernel, List.forall_mem_nil _⟩
    · exact List.forall_mem_cons.mpr ⟨hof, List.forall_mem_cons.mpr ⟨by decide +kernel, List.forall_mem_nil _⟩⟩
  cases b
  · k_steps
    unfold Hold
    have NN := any_news (nought_get X F N)
    refine ne_same NN (.list (hr _ hhl) (hD.mono hr0)) (.list (hr _ hgl) (hgD.mono hr)) (hkl hokg) (by k_dflt (exact Nat.le_of_ble_eq_true rfl)) ?_
    clear NN
    k_steps
    unfold Hold
    (with_reducible rename News _ _ _ _ => N9)
    refine ne_same N9 (.list (.tail _ (.tail _ (.tail _ hil))) (hiD _)) (.list (.head _) (.cons (.str _ _) .nil)) (hkl hoki) (by k_dflt (exact Nat.le_of_ble_eq_true rfl)) ?_
    k_steps
    exact hQ _ _ (by k_asm) (cb_drop N9 sub_tail1)
  · k_steps
    unfold Hold
    have NN := any_news (nought_get X F N)
    refine ne_same NN (.list (hr _ hhl) (hD.mono hr0)) (.list (hr _ hvl) (hvD.mono hr)) (hkl hok) (by k_dflt (exact Nat.le_of_ble_eq_true rfl)) ?_
    clear NN
    k_steps
    unfold Hold
    (with_reducible rename News _ _ _ _ => N9)
    refine ne_same N9 (.list (.tail _ (.tail _ (.tail _ hil))) (hiD _)) (.list (.head _) (.cons (.str _ _) (.cons (.str _ _) .nil))) (hkl hoki) (by k_dflt (exact Nat.le_of_ble_eq_true rfl)) ?_
    k_steps
    exact hQ _ _ (by k_asm) (cb_drop N9 sub_tail1)
end Mine
end
section
namespace Mine
theorem kw_LT6_0 : True := by
  k_with_none
  w_top off
  k_with "KALL" => (first | exact List.forall_mem_nil _ | with_reducible assumption | (refine' List.forall_mem_cons.mpr ⟨?a, ?b⟩; (case a => k_ne); (case b => k_all)))
  k_with "KMEM" => (first | with_reducible assumption | (change (_ : Addr × Obj) ∈ (_ : List (Addr × Obj)); with_reducible assumption) | exact List.mem_append.mpr (.inl (by with_reducible assumption)) | (refine List.mem_append.mpr (.inr ?_); k_mem))
  k_with "exec Assign" => walk_at "FOLD"
  k_with "exec Return some" => walk_at "FOLD"
  k_with "exec If" => walk_at "FOLD"
  k_with "exec AugAssign" => walk_at "FOLD"
  k_with "exec Expr" => walk_at "FOLD"
  k_with "eval Tuple" => walk_at "FOLD"
  k_with "eval List" => walk_at "FOLD"
  k_with "eval BinOp" => walk_at "FOLD"
  k_with "eval Call" => walk_at "FOLD"
  k_with "eval Subscript" => walk_at "FOLD"
  k_with "eval IfExp" => walk_at "FOLD"
  k_with "isTrue BoolOp" => walk_at "FOLD"
  k_with "isTrue Compare" => walk_at "FOLD"
  k_with "eval Call Attribute" => walk_at "FOLD"
  k_with "FOLD" => ((fail_if_success (fail_if_success k_fold)); refine (let qk := _; let ek := _; (?_ : wpAny _ _ _ qk ek _)))
  k_with "execs cons" => (refine wp_tk s ?_; intro _)
  k_with "WEANY" => first | with_reducible assumption | exact WE.setRow (by with_reducible assumption) | exact WE.setInputs (by with_reducible assumption) | exact WE.setSpot (by with_reducible assumption) | exact WE.setData (by with_reducible assumption)
  k_with "WEGET" => first | exact WE.inputs (by with_reducible assumption) | exact WE.out (by with_reducible assumption) | exact WE.row (by with_reducible assumption) | exact WE.data (by with_reducible assumption) | exact WE.spot (by with_reducible assumption) | exact (putL_found (WE.row (by with_reducible assumption))).2.1 | exact (putL_found (WE.row (by with_reducible assumption))).2.2 _ _ (by decide +kernel) (WE.out (by with_reducible assumption)) | exact (putL_found (WE.row (by with_reducible assumption))).2.2 _ _ (by decide +kernel) (WE.inputs (by with_reducible assumption))
  k_with "getAttr ref" => (k_here; k_dflt (refine' get_own ?k1 ?k2 ?k3 ?k4 ?k5 ?k6 ?k7 ?k8 ?k9 ?_; (case k1 => k_asm); (case k2 => k_asm); (case k3 => k_inst); (case k4 => k_is); (case k5 => k_is); (case k6 => k_is); (case k7 => k_is); (case k8 => walk_at "WEGET"); (case k9 => k_handed); k_whole))
  k_with "WELEN" => exact Nat.le_trans (Nat.le_of_eq (putL_found (by walk_at "WEGET")).1) (Nat.le_trans (WE.len (by with_reducible assumption)) (by decide))
  k_with "setAttr ref" => (k_here; k_dflt (refine' set_dict ?k1 ?k2 ?k3 ?k4 ?k5 ?k6 ?k7 ?k8 ?k9 ?k10 ?k11 ?k12 ?k13 ?_; (case k1 => k_asm); (case k2 => k_asm); (case k3 => k_asm); (case k4 => k_inst); (case k5 => exact rfl); (case k6 => k_is); (case k7 => k_is); (case k8 => k_is); (case k9 => k_is); (case k10 => exact we_some (by walk_at "WEGET")); (case k11 => exact rfl); (case k12 => k_upd); (case k13 => walk_at "WELEN"); k_whole); intro h' F' N'; (try k_sweep))
  k_with "eval ListComp" => (refine hold ?_)
  k_with "SrcLP" => (refine hold ?_)
  k_with "CompEnd" => (refine hold ?_)
  k_with "CompSrc" => (refine hold ?_)
  k_with "call builtin:str.join" => (refine hold ?_)
  k_with "compareOp NotEq" => (refine hold ?_)
  k_with "compareOp NotEq ref ref" => (refine hold ?_)
  trivial
theorem s8_perm {a b c : Addr × Obj} {l : Ledger} : ∀ p ∈ l, p ∈ a :: b :: c :: l := fun p hp => .tail _ (.tail _ (.tail _ hp))
theorem s8 (w : World) (st : Stmt) (sc : Scope) (hst : turnSt w.params 8 = some st) (hsc : lawScope w.params = some sc)
   (L fa : Addr) (rest : Ledger) (x d : Addr) (es : List DictEntry) (n : Nat) (il ol dl : Addr) (row : PySem.Str) (rt st0 : Tok) (ovs : List Value) (ko : Nat) (b : Bool)
   (W : WE es il ol dl row rt 0 st0) (hol : (ol, listOf ovs.toArray ko) ∈ rest) (hoD : ∀ l, DatAll l ovs (outD b))
   {mean : ExcName → Option Value} {mg mb : PySem.Str → Option Value} {h₀ : Heap} {m : PySem.Str → Option Value} {s : Shared} {Q : Flow → Shared → Prop} {E : Value → Shared → Prop} (hm : Has m [(Str.ofString "is_right", .bool b), (Str.ofString "world", .ref x)])
   (B : Below callerA h₀ [] h₀) (F : Fr h₀ L s.heap m) (X : (MineH.K w.params).In h₀) (N : News h₀ L s.heap ((x, instObj 216 d) :: (d, dictOf es n) :: rest)) (T : Top topProg topLs mean mg mb h₀)
   (hQ : ∀ h' tk', Fr h₀ L h' m → News h₀ L h' ((x, instObj 216 d) :: (d, dictOf es n) :: rest) → Q .next { s with heap := h', toks := tk' }) :
   wpAny (model PySem.Challenge.rw_pf0007_01.row.prog w) (callerA.deeper (envOfC (Str.ofString "law") sc L fa (.ref 252))) (exec st (envOfC (Str.ofString "law") sc L fa (.ref 252))) Q E s := by
  obtain ⟨m0, rfl⟩ : ∃ m0, m = fmu [(Str.ofString "is_right", .bool b), (Str.ofString "world", .ref x)] m0 := ⟨m, fmu_eq hm⟩
  conv at hst => lhs; whnf
  conv at hsc => lhs; whnf
  cases hst
  cases hsc
  have hokO : kqdOk 8 (.list (outD b)) = true := by cases b <;> decide +kernel
  cases b
  · k_steps
    unfold Hold
    (with_reducible rename News _ _ _ _ => N9)
    refine ne_same N9 (.list (.tail _ (.tail _ (.tail _ (.tail _ (.tail _ hol))))) (hoD _)) (.list (.head _) (.cons (.str _ _) (.cons (.str _ _) (.cons (.str _ _) .nil)))) hokO (by k_dflt (exact Nat.le_of_ble_eq_true rfl)) ?_
    k_steps
    exact hQ _ _ (by k_asm) (cb_drop N9 s8_perm)
  · k_steps
    unfold Hold
    (with_reducible rename News _ _ _ _ => N9)
    refine ne_same N9 (.list (.tail _ (.tail _ (.tail _ (.tail _ (.tail _ hol))))) (hoD _)) (.list (.head _) (.cons (.str _ _) .nil)) hokO (by k_dflt (exact Nat.le_of_ble_eq_true rfl)) ?_
    k_steps
    exact hQ _ _ (by k_asm) (cb_drop N9 s8_perm)
end Mine
end
section
namespace Mine
theorem kw_LT7_0 : True := by
  k_with_none
  w_top off
  k_with "KALL" => (first | exact List.forall_mem_nil _ | with_reducible assumption | (refine' List.forall_mem_cons.mpr ⟨?a, ?b⟩; (case a => k_ne); (case b => k_all)))
  k_with "KMEM" => (first | with_reducible assumption | (change (_ : Addr × Obj) ∈ (_ : List (Addr × Obj)); with_reducible assumption) | exact List.mem_append.mpr (.inl (by with_reducible assumption)) | (refine List.mem_append.mpr (.inr ?_); k_mem))
  k_with "exec Assign" => walk_at "FOLD"
  k_with "exec Return some" => walk_at "FOLD"
  k_with "exec If" => walk_at "FOLD"
  k_with "exec AugAssign" => walk_at "FOLD"
  k_with "exec Expr" => walk_at "FOLD"
  k_with "eval Tuple" => walk_at "FOLD"
  k_with "eval List" => walk_at "FOLD"
  k_with "eval BinOp" => walk_at "FOLD"
  k_with "eval Call" => walk_at "FOLD"
  k_with "eval Subscript" => walk_at "FOLD"
  k_with "eval IfExp" => walk_at "FOLD"
  k_with "isTrue BoolOp" => walk_at "FOLD"
  k_with "isTrue Compare" => walk_at "FOLD"
  k_with "eval Call Attribute" => walk_at "FOLD"
  k_with "FOLD" => ((fail_if_success (fail_if_success k_fold)); refine (let qk := _; let ek := _; (?_ : wpAny _ _ _ qk ek _)))
  k_with "execs cons" => (refine wp_tk s ?_; intro _)
  k_with "WEANY" => first | with_reducible assumption | exact WE.setRow (by with_reducible assumption) | exact WE.setInputs (by with_reducible assumption) | exact WE.setSpot (by with_reducible assumption) | exact WE.setData (by with_reducible assumption)
  k_with "WEGET" => first | exact WE.inputs (by with_reducible assumption) | exact WE.out (by with_reducible assumption) | exact WE.row (by with_reducible assumption) | exact WE.data (by with_reducible assumption) | exact WE.spot (by with_reducible assumption) | exact (putL_found (WE.row (by with_reducible assumption))).2.1 | exact (putL_found (WE.row (by with_reducible assumption))).2.2 _ _ (by decide +kernel) (WE.out (by with_reducible assumption)) | exact (putL_found (WE.row (by with_reducible assumption))).2.2 _ _ (by decide +kernel) (WE.inputs (by with_reducible assumption))
  k_with "getAttr ref" => (k_here; k_dflt (refine' get_own ?k1 ?k2 ?k3 ?k4 ?k5 ?k6 ?k7 ?k8 ?k9 ?_; (case k1 => k_asm); (case k2 => k_asm); (case k3 => k_inst); (case k4 => k_is); (case k5 => k_is); (case k6 => k_is); (case k7 => k_is); (case k8 => walk_at "WEGET"); (case k9 => k_handed); k_whole))
  k_with "WELEN" => exact Nat.le_trans (Nat.le_of_eq (putL_found (by walk_at "WEGET")).1) (Nat.le_trans (WE.len (by with_reducible assumption)) (by decide))
  k_with "setAttr ref" => (k_here; k_dflt (refine' set_dict ?k1 ?k2 ?k3 ?k4 ?k5 ?k6 ?k7 ?k8 ?k9 ?k10 ?k11 ?k12 ?k13 ?_; (case k1 => k_asm); (case k2 => k_asm); (case k3 => k_asm); (case k4 => k_inst); (case k5 => exact rfl); (case k6 => k_is); (case k7 => k_is); (case k8 => k_is); (case k9 => k_is); (case k10 => exact we_some (by walk_at "WEGET")); (case k11 => exact rfl); (case k12 => k_upd); (case k13 => walk_at "WELEN"); k_whole); intro h' F' N'; (try k_sweep))
  k_with "eval ListComp" => (refine hold ?_)
  k_with "SrcLP" => (refine hold ?_)
  k_with "CompEnd" => (refine hold ?_)
  k_with "CompSrc" => (refine hold ?_)
  k_with "call builtin:str.join" => (refine hold ?_)
  k_with "call ref" => (refine hold ?_)
  trivial
@[reducible] noncomputable def psOf (row : PySem.Str) : List PySem.Str := (pcFold (KStt.codes row)).1 ++ [Txt.stripChars (pcFold (KStt.codes row)).2.1 blk]
theorem s9_perm {a b c D : Addr × Obj} {tl l : Ledger} : ∀ p ∈ b :: c :: D :: (tl ++ l), p ∈ D :: (tl ++ a :: b :: c :: l) := fun p hp => by
  simp only [List.mem_cons, List.mem_append] at hp ⊢
  rcases hp with h | h | h | h | h <;> simp [h]
theorem s9_mem {a b c : Addr × Obj} {tl l : Ledger} : ∀ p ∈ tl ++ l, p ∈ tl ++ a :: b :: c :: l := fun p hp => by
  simp only [List.mem_cons, List.mem_append] at hp ⊢
  rcases hp with h | h <;> simp [h]
theorem s9 (w : World) (st : Stmt) (sc : Scope) (hst : turnSt w.params 9 = some st) (hsc : lawScope w.params = some sc)
   (L fa : Addr) (rest : Ledger) (x d : Addr) (es : List DictEntry) (n : Nat) (il ol dl : Addr) (rw : PySem.Str) (rt st0 : Tok) (row : PySem.Str) (tr : Tok)
   (W : WE es il ol dl rw rt 0 st0) (hx : ∀ p ∈ rest, p.1 ≠ x) (hd' : ∀ p ∈ rest, p.1 ≠ d) (dx : @LT.lt Nat _ d x) (hrow : row.length ≤ 1000) (hps : (psOf row).length ≤ 3)
   {mean : ExcName → Option Value} {mg mb : PySem.Str → Option Value} {h₀ : Heap} {m : PySem.Str → Option Value} {s : Shared} {Q : Flow → Shared → Prop} {E : Value → Shared → Prop} (hm : Has m [(Str.ofString "row", .str row tr), (Str.ofString "world", .ref x)])
   (B : Below callerA h₀ [] h₀) (F : Fr h₀ L s.heap m) (X : (MineH.K w.params).In h₀) (N : News h₀ L s.heap ((x, instObj 216 d) :: (d, dictOf es n) :: rest)) (T : Top topProg topLs mean mg mb h₀)
   (hQ : ∀ (dl' : Addr) (dvs : List Value) (dn : Nat) (tl : Ledger) (es' : List DictEntry) (n' : Nat), WE es' il ol dl' rw rt 0 st0 → DatAll tl dvs ((psOf row).map pD) → (∀ q ∈ (x, instObj 216 d) :: (d, dictOf es n) :: rest, ∀ p ∈ tl, q.1 < p.1) → (∀ p ∈ (x, instObj 216 d) :: (d, dictOf es n) :: (tl ++ rest), p.1 ≠ dl') → ∀ h' tk', Fr h₀ L h' m → News h₀ L h' ((x, instObj 216 d) :: (d, dictOf es' n') :: (dl', listOf dvs.toArray dn) :: (tl ++ rest)) → Q .next { s with heap := h', toks := tk' }) :
   wpAny (model PySem.Challenge.rw_pf0007_01.row.prog w) (callerA.deeper (envOfC (Str.ofString "law") sc L fa (.ref 252))) (exec st (envOfC (Str.ofString "law") sc L fa (.ref 252))) Q E s := by
  obtain ⟨m0, rfl⟩ : ∃ m0, m = fmu [(Str.ofString "row", .str row tr), (Str.ofString "world", .ref x)] m0 := ⟨m, fmu_eq hm⟩
  conv at hst => lhs; whnf
  conv at hsc => lhs; whnf
  cases hst
  cases hsc
  k_steps
  unfold Hold
  k_dflt (refine LCg.ListComp_U (F₀ := F) (by with_unfolding_all rfl) (by decide) (by rfl) (by decide) (by rfl) ?_)
  k_steps
  unfold Hold
  refine Does.use (pieces_spec w _ row tr hrow) B F X N T rfl (by k_dflt (exact Nat.le_of_ble_eq_true rfl)) (by k_dflt (exact Nat.le_of_ble_eq_true rfl)) ?_
  intro pl pvs pn hpD hpo h1 tk1 F1 N1
  have hpl : pvs.length = (psOf row).length := by
    have := DatAll.length hpD
    rwa [List.length_map] at this
  k_steps
  unfold Hold
  refine LCg.CompSrc.ledger (by rfl) F1 N1 (.head _) (Nat.le_trans (show pvs.toArray.size ≤ 3 by rw [List.size_toArray, hpl]; exact hps) (Nat.le_of_ble_eq_true rfl)) (fun g => ?_)
  refine comp_ind (fun k i ys' news' => k + i = pvs.length ∧ ∃ tl, DatAll tl ys' (((psOf row).take i).map pD) ∧ (∀ q ∈ (pl, listOf pvs.toArray pn) :: (x, instObj 216 d) :: (d, dictOf es n) :: rest, ∀ p ∈ tl, q.1 < p.1) ∧ news' = tl ++ (pl, listOf pvs.toArray pn) :: (x, instObj 216 d) :: (d, dictOf es n) :: rest) ?zero ?succ pvs.toArray.size 0 [] _ ⟨by rw [List.size_toArray]; omega, [], .nil, (fun _ _ _ h => nomatch h), rfl⟩
  case zero =>
    rintro i ys' _ ⟨hi, tl, hd, hord, rfl⟩ D h tk F2 N2 o2
    rw [List.take_of_length_le (by omega)] at hd
    replace N2 := cb_drop N2 s9_perm
    have ho := off1_mem o2
    have hDx : @Ne Nat x D := ho _ (List.mem_append.mpr (.inr (.tail _ (.head _))))
    have hDd : @Ne Nat d D := ho _ (List.mem_append.mpr (.inr (.tail _ (.tail _ (.head _)))))
    have hDd2 : @Ne Nat D d := fun e => hDd e.symm
    have had : ∀ p ∈ tl ++ rest, p.1 ≠ d := all_app (fun p hp => Nat.ne_of_gt (hord (d, dictOf es n) (.tail _ (.tail _ (.head _))) p hp)) hd'
    k_steps
    exact hQ D ys' _ tl _ _ (WE.setData W) hd (fun q hq => hord q (.tail _ hq)) (List.forall_mem_cons.mpr ⟨hDx, List.forall_mem_cons.mpr ⟨hDd, fun p hp => ho p (s9_mem p hp)⟩⟩) _ _ (by k_asm) (by k_asm)
  case succ =>
    rintro k i ys' _ ⟨hi, tl, hd, hord, rfl⟩ IH
    refine LCg.CompRest.succ ?_
    intro v I oI C oC D m₂ h tk E' hv hC hx F2 N2 off ne
    obtain ⟨kk, hkk, hvk⟩ : ∃ kk, (psOf row)[i]? = some kk ∧ ∃ t, v = .str kk t := by
      obtain ⟨p, hp1, hp2⟩ := datAll_at (f := Dat.str) hpD (j := i) (v := v) (by simpa using hv)
      refine ⟨p, hp1, ?_⟩
      cases hp2 with
      | str _ t => exact ⟨t, rfl⟩
    obtain ⟨tv, rfl⟩ := hvk
    have htk : (psOf row).take (i + 1) = (psOf row).take i ++ [kk] := by
      obtain ⟨hi', rfl⟩ := List.getElem?_eq_some_iff.mp hkk
      exact (List.take_append_getElem hi').symm
    have hlt : ∀ {q : Addr × Obj}, q ∈ (I, oI) :: (C, oC) :: (D, LCg.lst ys') :: (tl ++ (pl, listOf pvs.toArray pn) :: (x, instObj 216 d) :: (d, dictOf es n) :: rest) → @LT.lt Nat _ q.1 h.objs.size := fun hq => Heap.lt_size (N2 _ hq).1
    k_steps
    unfold Hold
    rename_i D9 h9 F9 N9 l9
    refine LCg.CompEnd.intro F9 N9 ((tl ++ [(D9, tupO [.int 10 tk, .str kk tv])]) ++ (pl, listOf pvs.toArray pn) :: (x, instObj 216 d) :: (d, dictOf es n) :: rest) s4_perm ?_ (.inr ⟨_, List.mem_append.mpr (.inr (.head _)), rfl, pn, rfl⟩) (IH _ _ ⟨by omega, tl ++ [(D9, tupO [.int 10 tk, .str kk tv])], ?_, ?_, rfl⟩)
    · refine LCg.Off3.of fun p hp => ?_
      rcases List.mem_append.mp hp with hp | hp
      · rcases List.mem_append.mp hp with hp | hp
        · exact off.mem p (List.mem_append.mpr (.inl hp))
        · rw [List.mem_singleton.mp hp]
          exact ⟨Nat.ne_of_gt l9.1, Nat.ne_of_gt l9.2.1, Nat.ne_of_gt l9.2.2.1⟩
      · exact off.mem p (List.mem_append.mpr (.inr hp))
    · rw [htk, List.map_append]
      exact DatAll.append (hd.mono fun p hp => List.mem_append.mpr (.inl hp)) (.cons (.tuple (List.mem_append.mpr (.inr (.head _))) (.cons (.int _ _) (.cons (.str _ _) .nil))) .nil)
    · intro q hq p hp
      rcases List.mem_append.mp hp with hp | hp
      · exact hord q hq p hp
      · rw [List.mem_singleton.mp hp]
        exact ktn_ltOf l9.2.2.2 q (List.mem_append.mpr (.inr hq))
end Mine
end
section
namespace Mine
theorem kw_LT8_0 : True := by
  k_with_none
  w_top off
  k_with "KALL" => (first | exact List.forall_mem_nil _ | with_reducible assumption | (refine' List.forall_mem_cons.mpr ⟨?a, ?b⟩; (case a => k_ne); (case b => k_all)))
  k_with "KMEM" => (first | with_reducible assumption | (change (_ : Addr × Obj) ∈ (_ : List (Addr × Obj)); with_reducible assumption) | exact List.mem_append.mpr (.inl (by with_reducible assumption)) | (refine List.mem_append.mpr (.inr ?_); k_mem))
  k_with "exec Assign" => walk_at "FOLD"
  k_with "exec Return some" => walk_at "FOLD"
  k_with "exec If" => walk_at "FOLD"
  k_with "exec AugAssign" => walk_at "FOLD"
  k_with "exec Expr" => walk_at "FOLD"
  k_with "eval Tuple" => walk_at "FOLD"
  k_with "eval List" => walk_at "FOLD"
  k_with "eval BinOp" => walk_at "FOLD"
  k_with "eval Call" => walk_at "FOLD"
  k_with "eval Subscript" => walk_at "FOLD"
  k_with "eval IfExp" => walk_at "FOLD"
  k_with "isTrue BoolOp" => walk_at "FOLD"
  k_with "isTrue Compare" => walk_at "FOLD"
  k_with "eval Call Attribute" => walk_at "FOLD"
  k_with "FOLD" => ((fail_if_success (fail_if_success k_fold)); refine (let qk := _; let ek := _; (?_ : wpAny _ _ _ qk ek _)))
  k_with "execs cons" => (refine wp_tk s ?_; intro _)
  k_with "WEANY" => first | with_reducible assumption | exact WE.setRow (by with_reducible assumption) | exact WE.setInputs (by with_reducible assumption) | exact WE.setSpot (by with_reducible assumption) | exact WE.setData (by with_reducible assumption)
  k_with "WEGET" => first | exact WE.inputs (by with_reducible assumption) | exact WE.out (by with_reducible assumption) | exact WE.row (by with_reducible assumption) | exact WE.data (by with_reducible assumption) | exact WE.spot (by with_reducible assumption) | exact (putL_found (WE.row (by with_reducible assumption))).2.1 | exact (putL_found (WE.row (by with_reducible assumption))).2.2 _ _ (by decide +kernel) (WE.out (by with_reducible assumption)) | exact (putL_found (WE.row (by with_reducible assumption))).2.2 _ _ (by decide +kernel) (WE.inputs (by with_reducible assumption))
  k_with "getAttr ref" => (k_here; k_dflt (refine' get_own ?k1 ?k2 ?k3 ?k4 ?k5 ?k6 ?k7 ?k8 ?k9 ?_; (case k1 => k_asm); (case k2 => k_asm); (case k3 => k_inst); (case k4 => k_is); (case k5 => k_is); (case k6 => k_is); (case k7 => k_is); (case k8 => walk_at "WEGET"); (case k9 => k_handed); k_whole))
  k_with "WELEN" => exact Nat.le_trans (Nat.le_of_eq (putL_found (by walk_at "WEGET")).1) (Nat.le_trans (WE.len (by with_reducible assumption)) (by decide))
  k_with "setAttr ref" => (k_here; k_dflt (refine' set_dict ?k1 ?k2 ?k3 ?k4 ?k5 ?k6 ?k7 ?k8 ?k9 ?k10 ?k11 ?k12 ?k13 ?_; (case k1 => k_asm); (case k2 => k_asm); (case k3 => k_asm); (case k4 => k_inst); (case k5 => exact rfl); (case k6 => k_is); (case k7 => k_is); (case k8 => k_is); (case k9 => k_is); (case k10 => exact we_some (by walk_at "WEGET")); (case k11 => exact rfl); (case k12 => k_upd); (case k13 => walk_at "WELEN"); k_whole); intro h' F' N'; (try k_sweep))
  k_with "eval ListComp" => (refine hold ?_)
  k_with "SrcLP" => (refine hold ?_)
  k_with "CompEnd" => (refine hold ?_)
  k_with "CompSrc" => (refine hold ?_)
  k_with "call builtin:str.join" => (refine hold ?_)
  k_with "call builtin:list.index" => (refine hold ?_)
  trivial
noncomputable def isNoneV : Value → Bool
  | .none => true
  | _ => false
theorem datAll_get {l : Ledger} : ∀ {vs : List Value} {ds : List Dat}, DatAll l vs ds → ∀ {j : Nat} {v : Value}, vs[j]? = some v → ∃ d, ds[j]? = some d ∧ DatIn l v d
  | _, _, .cons h r, 0, v, e => by cases e; exact ⟨_, rfl, h⟩
  | _, _, .cons h r, j + 1, v, e => datAll_get r (j := j) e
theorem isNoneV_iff {l : Ledger} {v : Value} {d : Dat} (h : DatIn l v d) : isNoneV v = true ↔ d = .none := by
  cases h <;> simp [isNoneV]
theorem index_none {prog : Program} {w : World} {A : Around} {E : Value → Shared → Prop} {s : Shared} {h₀ : Heap} {L a : Addr} {news : Ledger} {vs : List Value} {n : Nat} {ds : List Dat} {j : Nat} {Q : Value → Shared → Prop}
    (N : News h₀ L s.heap news) (hm : (a, listOf vs.toArray n) ∈ news) (Da : DatAll news vs ds) (hk : ∀ d ∈ ds, kqdOk 8 d = true) (hj : ds[j]? = some Dat.none) (hno : ∀ m, m < j → ds[m]? ≠ some Dat.none) (hz : ds.length ≤ 3) (hu : A.units + 64 < cLine)
    (h : Q (.int (j : Int) s.toks) { s with toks := s.toks + 1 }) : wpAny (model prog w) A (call (.builtin "list.index") [.ref a, .none]) Q E s := by
  have hl := DatAll.length Da
  have hjl : j < vs.length := by rw [hl]; exact (List.getElem?_eq_some_iff.mp hj).1
  refine call_meets PySem.F.slot_list_index ⟨_, (N _ hm).1, rfl⟩ PySem.F.entry_list_index (PySem.F.args_list_index_2 _ _) (SeqAt.list_indexAt a vs.toArray n none #[] .none isNoneV j (by simpa using hjl) (by omega) ?_ ?_) ⟨(N _ hm).1, ?_, h⟩
  · obtain ⟨d, hd, hin⟩ := datAll_get Da (j := j) (v := vs[j]) (List.getElem?_eq_getElem hjl)
    rw [hj] at hd
    cases hd
    show isNoneV (vs[j]) = true
    exact (isNoneV_iff hin).mpr rfl
  · intro m hm2 hmj
    have hml : m < vs.length := by simpa using hm2
    obtain ⟨d, hd, hin⟩ := datAll_get Da (j := m) (v := vs[m]) (List.getElem?_eq_getElem hml)
    show isNoneV (vs[m]) = false
    cases q : isNoneV vs[m] with
    | false => rfl
    | true => rw [(isNoneV_iff hin).mp q] at hd; exact absurd hd (hno m hmj)
  · intro y hy
    obtain ⟨i, hi⟩ := List.mem_iff_getElem?.mp (show y ∈ vs by simpa using hy)
    obtain ⟨d, hd, hin⟩ := datAll_get Da hi
    have hkd := hk d (List.mem_of_getElem? hd)
    have hu' : A.in1.units < cLine := by rw [Around.in1_units]; omega
    cases hin with
    | none => exact SeqAt.EqAt.same _
    | bool b => cases hkd
    | int i t => exact SeqAt.EqAt.int_none _ _
    | str x t => exact SeqAt.EqAt.str_none _ _
    | bytes b t => cases hkd
    | tuple hm2 _ => exact SeqAt.EqAt.tuple_none ⟨_, (N _ hm2).1, rfl, _, rfl⟩ hu'
    | list hm2 _ => exact SeqAt.EqAt.list_none ⟨_, (N _ hm2).1, rfl, _, rfl⟩ hu'
theorem s10 (w : World) (st : Stmt) (sc : Scope) (hst : turnSt w.params 10 = some st) (hsc : lawScope w.params = some sc)
   (L fa : Addr) (om : Obj) (rest : Ledger) (r : Nat) (tm : Tok) (homd : om.data = .cell (some (.int (1 + (r : Int)) tm))) (hom : (L + 1 + 1, om) ∈ rest) (vl : Addr) (vs : List Value) (vn : Nat) (ds : List Dat) (b : Bool) (fi : Nat)
   (hvl : (vl, listOf vs.toArray vn) ∈ rest) (hvs : DatAll rest vs ds) (hok : ∀ d ∈ ds, kqdOk 8 d = true) (hdn : ds.length ≤ 3) (hf1 : b = true → fi = r + 1) (hf2 : b = false → ds[fi]? = some Dat.none ∧ ∀ m, m < fi → ds[m]? ≠ some Dat.none)
   {mean : ExcName → Option Value} {mg mb : PySem.Str → Option Value} {h₀ : Heap} {m : PySem.Str → Option Value} {s : Shared} {Q : Flow → Shared → Prop} {E : Value → Shared → Prop} (hm : Has m [(Str.ofString "is_right", .bool b), (Str.ofString "values", .ref vl)])
   (B : Below callerA h₀ [] h₀) (F : Fr h₀ L s.heap m) (X : (MineH.K w.params).In h₀) (N : News h₀ L s.heap rest) (T : Top topProg topLs mean mg mb h₀)
   (hQ : ∀ t h' tk', Fr h₀ L h' (fun y => if y = Str.ofString "first" then some (.int (fi : Int) t) else m y) → News h₀ L h' rest → Q .next { s with heap := h', toks := tk' }) :
   wpAny (model PySem.Challenge.rw_pf0007_01.row.prog w) (callerA.deeper (envOfC (Str.ofString "law") sc L fa (.ref 252))) (exec st (envOfC (Str.ofString "law") sc L fa (.ref 252))) Q E s := by
  obtain ⟨m0, rfl⟩ : ∃ m0, m = fmu [(Str.ofString "is_right", .bool b), (Str.ofString "values", .ref vl)] m0 := ⟨m, fmu_eq hm⟩
  conv at hst => lhs; whnf
  conv at hsc => lhs; whnf
  cases hst
  cases hsc
  cases b
  · k_steps
    unfold Hold
    obtain ⟨g1, g2⟩ := hf2 rfl
    refine index_none N hvl hvs hok g1 g2 hdn (by k_dflt (exact Nat.le_of_ble_eq_true rfl)) ?_
    k_steps
    exact hQ _ _ _ (by k_asm) (by k_asm)
  · have hfi : (fi : Int) = 1 + (r : Int) := by have := hf1 rfl; omega
    rw [hfi] at hQ
    k_steps
    exact hQ _ _ _ (by k_asm) (by k_asm)
end Mine
end
section
namespace Mine
theorem kw_LT9_0 : True := by
  k_with_none
  w_top off
  k_with "KALL" => (first | exact List.forall_mem_nil _ | with_reducible assumption | (refine' List.forall_mem_cons.mpr ⟨?a, ?b⟩; (case a => k_ne); (case b => k_all)))
  k_with "KMEM" => (first | with_reducible assumption | (change (_ : Addr × Obj) ∈ (_ : List (Addr × Obj)); with_reducible assumption) | exact List.mem_append.mpr (.inl (by with_reducible assumption)) | (refine List.mem_append.mpr (.inr ?_); k_mem))
  k_with "exec Assign" => walk_at "FOLD"
  k_with "exec Return some" => walk_at "FOLD"
  k_with "exec If" => walk_at "FOLD"
  k_with "exec AugAssign" => walk_at "FOLD"
  k_with "exec Expr" => walk_at "FOLD"
  k_with "eval Tuple" => walk_at "FOLD"
  k_with "eval List" => walk_at "FOLD"
  k_with "eval BinOp" => walk_at "FOLD"
  k_with "eval Call" => walk_at "FOLD"
  k_with "eval Subscript" => walk_at "FOLD"
  k_with "eval IfExp" => walk_at "FOLD"
  k_with "isTrue BoolOp" => walk_at "FOLD"
  k_with "isTrue Compare" => walk_at "FOLD"
  k_with "eval Call Attribute" => walk_at "FOLD"
  k_with "FOLD" => ((fail_if_success (fail_if_success k_fold)); refine (let qk := _; let ek := _; (?_ : wpAny _ _ _ qk ek _)))
  k_with "execs cons" => (refine wp_tk s ?_; intro _)
  k_with "WEANY" => first | with_reducible assumption | exact WE.setRow (by with_reducible assumption) | exact WE.setInputs (by with_reducible assumption) | exact WE.setSpot (by with_reducible assumption) | exact WE.setData (by with_reducible assumption)
  k_with "WEGET" => first | exact WE.inputs (by with_reducible assumption) | exact WE.out (by with_reducible assumption) | exact WE.row (by with_reducible assumption) | exact WE.data (by with_reducible assumption) | exact WE.spot (by with_reducible assumption) | exact (putL_found (WE.row (by with_reducible assumption))).2.1 | exact (putL_found (WE.row (by with_reducible assumption))).2.2 _ _ (by decide +kernel) (WE.out (by with_reducible assumption)) | exact (putL_found (WE.row (by with_reducible assumption))).2.2 _ _ (by decide +kernel) (WE.inputs (by with_reducible assumption))
  k_with "getAttr ref" => (k_here; k_dflt (refine' get_own ?k1 ?k2 ?k3 ?k4 ?k5 ?k6 ?k7 ?k8 ?k9 ?_; (case k1 => k_asm); (case k2 => k_asm); (case k3 => k_inst); (case k4 => k_is); (case k5 => k_is); (case k6 => k_is); (case k7 => k_is); (case k8 => walk_at "WEGET"); (case k9 => k_handed); k_whole))
  k_with "WELEN" => exact Nat.le_trans (Nat.le_of_eq (putL_found (by walk_at "WEGET")).1) (Nat.le_trans (WE.len (by with_reducible assumption)) (by decide))
  k_with "setAttr ref" => (k_here; k_dflt (refine' set_dict ?k1 ?k2 ?k3 ?k4 ?k5 ?k6 ?k7 ?k8 ?k9 ?k10 ?k11 ?k12 ?k13 ?_; (case k1 => k_asm); (case k2 => k_asm); (case k3 => k_asm); (case k4 => k_inst); (case k5 => exact rfl); (case k6 => k_is); (case k7 => k_is); (case k8 => k_is); (case k9 => k_is); (case k10 => exact we_some (by walk_at "WEGET")); (case k11 => exact rfl); (case k12 => k_upd); (case k13 => walk_at "WELEN"); k_whole); intro h' F' N'; (try k_sweep))
  k_with "eval ListComp" => (refine hold ?_)
  k_with "SrcLP" => (refine hold ?_)
  k_with "CompEnd" => (refine hold ?_)
  k_with "CompSrc" => (refine hold ?_)
  k_with "call builtin:str.join" => (refine hold ?_)
  k_with "compareOp NotEq" => (refine hold ?_)
  k_with "compareOp NotEq ref ref" => (refine hold ?_)
  k_with "compareOp NotEq int int" => (refine hold ?_)
  k_with "call ref" => (refine hold ?_)
  k_with "subscriptTail Name Slice ref ref" => (refine hold ?_)
  trivial
theorem s11_mem {p a b c d : Addr × Obj} {t u l : Ledger} (h : p ∈ l) : p ∈ a :: b :: (t ++ c :: d :: (u ++ l)) := .tail _ (.tail _ (List.mem_append.mpr (.inr (.tail _ (.tail _ (List.mem_append.mpr (.inr h)))))))
theorem s11_perm {a b c d : Addr × Obj} {t l : Ledger} : ∀ p ∈ c :: d :: a :: b :: (t ++ l), p ∈ a :: b :: (t ++ c :: d :: l) := fun p hp => by
  simp only [List.mem_cons, List.mem_append] at hp ⊢
  rcases hp with h | h | h | h | h | h <;> simp [h]
theorem datAll_take {l : Ledger} : ∀ {vs : List Value} {ds : List Dat}, DatAll l vs ds → ∀ n, DatAll l (vs.take n) (ds.take n)
  | _, _, _, 0 => .nil
  | _, _, .nil, n + 1 => .nil
  | _, _, .cons h r, n + 1 => .cons h (datAll_take r n)
theorem mem7 {p a b c d e f g : Addr × Obj} {l : Ledger} (h : p ∈ l) : p ∈ a :: b :: c :: d :: e :: f :: g :: l := .tail _ (.tail _ (.tail _ (.tail _ (.tail _ (.tail _ (.tail _ h))))))
theorem s11 (w : World) (st : Stmt) (sc : Scope) (hst : turnSt w.params 11 = some st) (hsc : lawScope w.params = some sc)
   (L fa : Addr) (rest : Ledger) (x d : Addr) (es : List DictEntry) (n : Nat) (il ol dl kl vl : Addr) (rw : PySem.Str) (rt st0 tfi : Tok) (dvs kvs vs : List Value) (dn kn vn : Nat) (ps ks : List PySem.Str) (ts : TabSt) (ds : List Dat) (b : Bool) (fi : Nat)
   (W : WE es il ol dl rw rt 0 st0) (hd' : ∀ p ∈ rest, p.1 ≠ d) (hx' : ∀ p ∈ rest, p.1 ≠ x) (dx : @LT.lt Nat _ d x) (hdl : (dl, listOf dvs.toArray dn) ∈ rest) (hps : DatAll rest dvs (ps.map pD)) (hkl : (kl, listOf kvs.toArray kn) ∈ rest) (hks : DatAll rest kvs (ks.map Dat.str)) (hkn : ks.length ≤ 3)
   (hpk : ps.length = ks.length) (hpl : ∀ p ∈ ps, p.length ≤ 1000) (hx : ∀ (i : Nat) p k, ps[i]? = some p → ks[i]? = some k → (k == PySem.Str.ofString "text") = false → (p == PySem.Str.ofString "") = false → NumT p)
   (hvl : (vl, listOf vs.toArray vn) ∈ rest) (hvs : DatAll rest vs ds) (hok : ∀ d ∈ ds, kqdOk 6 d = true) (hdn : ds.length ≤ 3) (hfi : fi ≤ ds.length) (hR : ∀ ds' b', ReadL ps ks ds' b' → b' = b ∧ ds' = ds.take fi)
   (hTd : ∀ p ∈ tabL 243 posR ts, p.1 < d) (hP : ∀ p ∈ rest, p.1 ≠ 243) (hT : TabOk (qualL "_law_read") ts)
   {mean : ExcName → Option Value} {mg mb : PySem.Str → Option Value} {h₀ : Heap} {m : PySem.Str → Option Value} {s : Shared} {Q : Flow → Shared → Prop} {E : Value → Shared → Prop} (hm : Has m [(Str.ofString "world", .ref x), (Str.ofString "kinds", .ref kl), (Str.ofString "values", .ref vl), (Str.ofString "first", .int (fi : Int) tfi), (Str.ofString "is_right", .bool b)])
   (B : Below callerA h₀ [] h₀) (F : Fr h₀ L s.heap m) (X : (MineH.K w.params).In h₀) (N : News h₀ L s.heap ((x, instObj 216 d) :: (d, dictOf es n) :: (tabL 243 posR ts ++ rest))) (T : Top topProg topLs mean mg mb h₀) (C : CodeHd h₀ 247 243)
   (hQ : ∀ ts', TabOk (qualL "_law_read") ts' → (ts' = ts ∨ ∀ c' oc, ts' = .made c' oc → ∀ p ∈ (x, instObj 216 d) :: (d, dictOf es n) :: (tabL 243 posR ts ++ rest), p.1 < c') → ∀ h' tk', Fr h₀ L h' m → News h₀ L h' (tabL 243 posR ts' ++ rest) → Q .next { s with heap := h', toks := tk' }) :
   wpAny (model PySem.Challenge.rw_pf0007_01.row.prog w) (callerA.deeper (envOfC (Str.ofString "law") sc L fa (.ref 252))) (exec st (envOfC (Str.ofString "law") sc L fa (.ref 252))) Q E s := by
  obtain ⟨m0, rfl⟩ : ∃ m0, m = fmu [(Str.ofString "world", .ref x), (Str.ofString "kinds", .ref kl), (Str.ofString "values", .ref vl), (Str.ofString "first", .int (fi : Int) tfi), (Str.ofString "is_right", .bool b)] m0 := ⟨m, fmu_eq hm⟩
  conv at hst => lhs; whnf
  conv at hsc => lhs; whnf
  cases hst
  cases hsc
  k_steps
  unfold Hold
  refine lread_spec w rest x d es n il ol dl kl rw rt st0 dvs kvs dn kn ps ks ts W hd' hx' dx hdl hps hkl hks hkn hpk hpl hx hTd hP hT B F X N T X T C rfl ?hdp ?hu ?ret
  case hdp => k_dflt (exact Nat.le_of_ble_eq_true rfl)
  case hu => k_dflt (exact Nat.le_of_ble_eq_true rfl)
  case ret =>
    intro ds' b' hRd tp fl fvs fn tl es' n' st' tc ts' hD W' hT' hTc h1 tk1 F1 N1
    obtain ⟨rfl, rfl⟩ := hR _ _ hRd
    have hvl1 : vs.length = ds.length := DatAll.length hvs
    have hfl : (ds.take fi).length = fi := by rw [List.length_take]; omega
    have hpick : slicePick vs.toArray none (some (fi : Int)) none = (vs.take fi).toArray := by
      rw [kmk_pick_nat (a := 0) (b := fi) _ ?_]
      · rw [List.drop_zero, Nat.sub_zero]
      · simp only [sliceBounds, Option.getD_none, show (1 : Int) > 0 by decide, if_true, if_neg (show ¬ ((fi : Int) < 0) by omega), List.size_toArray]
        congr 1
        congr 1
        omega
    have hokt : kqdOk 8 (.tuple [.list (ds.take fi), .str (if b' then Str.ofString "" else Str.ofString "SN")]) = true := by
      refine List.all_eq_true.mpr (List.forall_mem_cons.mpr ⟨List.all_eq_true.mpr fun e he => hok e (List.mem_of_mem_take he), List.forall_mem_cons.mpr ⟨?_, List.forall_mem_nil _⟩⟩)
      cases b' <;> decide +kernel
    replace N1 := cb_drop N1 s11_perm
    have hr : ∀ p ∈ rest, ∀ {a b c d : Addr × Obj}, p ∈ a :: b :: c :: d :: (tl ++ (tabL 243 posR ts' ++ rest)) := fun p hp {a b c d} => .tail _ (.tail _ (.tail _ (.tail _ (List.mem_append.mpr (.inr (List.mem_append.mpr (.inr hp)))))))
    have hsz : vs.toArray.size ≤ sizeLine := Nat.le_trans (show vs.toArray.size ≤ 3 by rw [List.size_toArray, hvl1]; exact hdn) (Nat.le_of_ble_eq_true rfl)
    k_steps
    unfold Hold
    refine kmk_slice (s := { s with heap := h1, toks := tk1 }) F1 N1 (News.isList N1 (hr _ hvl)) .none (.int (fi : Int) _) ?_ (by with_unfolding_all rfl) (by intro _; with_unfolding_all rfl) hsz
    intro D h2 F2 N2 lD
    rw [hpick] at N2
    have hDt : ∀ l, (∀ p ∈ rest, p ∈ l) → DatAll l (vs.take fi) (ds.take fi) := fun l hl => datAll_take (hvs.mono hl) fi
    clear hR hx hpl hps hT hTd
    cases b'
    · k_steps
      unfold Hold
      rename_i D9 h9 F9 N9 l9
      have NN := any_news (nought_get X F9 N9)
      refine ne_same NN (.tuple (.tail _ (.tail _ (.tail _ (.tail _ (.tail _ (.head _)))))) (.cons (.list (.tail _ (.tail _ (.tail _ (.tail _ (.tail _ (.tail _ (.head _))))))) (hD.mono fun p hp => ?_)) (.cons (.str _ _) .nil))) (.tuple (.tail _ (.head _)) (.cons (.list (.tail _ (.tail _ (.head _))) (hDt _ fun p hp => mem7 (List.mem_append.mpr (.inr (List.mem_append.mpr (.inr hp)))))) (.cons (.str _ _) .nil))) hokt (by k_dflt (exact Nat.le_of_ble_eq_true rfl)) ?_
      · rcases List.mem_cons.mp hp with rfl | hp
        · exact .head _
        · exact mem7 (List.mem_append.mpr (.inl hp))
      clear NN
      k_steps
      unfold Hold
      rw [hfl]
      refine ne_same N9 (.int _ _) (.int (fi : Int) _) rfl (by k_dflt (exact Nat.le_of_ble_eq_true rfl)) ?_
      k_steps
      exact hQ ts' hT' hTc _ _ (by k_asm) (cb_drop N9 fun p hp => .tail _ (.tail _ (.tail _ (.tail _ (.tail _ (.tail _ (List.mem_append.mpr (.inr hp))))))))
    · k_steps
      unfold Hold
      rename_i D9 h9 F9 N9 l9
      have NN := any_news (nought_get X F9 N9)
      refine ne_same NN (.tuple (.tail _ (.tail _ (.tail _ (.tail _ (.tail _ (.head _)))))) (.cons (.list (.tail _ (.tail _ (.tail _ (.tail _ (.tail _ (.tail _ (.head _))))))) (hD.mono fun p hp => ?_)) (.cons (.str _ _) .nil))) (.tuple (.tail _ (.head _)) (.cons (.list (.tail _ (.tail _ (.head _))) (hDt _ fun p hp => mem7 (List.mem_append.mpr (.inr (List.mem_append.mpr (.inr hp)))))) (.cons (.str _ _) .nil))) hokt (by k_dflt (exact Nat.le_of_ble_eq_true rfl)) ?_
      · rcases List.mem_cons.mp hp with rfl | hp
        · exact .head _
        · exact mem7 (List.mem_append.mpr (.inl hp))
      clear NN
      k_steps
      unfold Hold
      rw [hfl]
      refine ne_same N9 (.int _ _) (.int (fi : Int) _) rfl (by k_dflt (exact Nat.le_of_ble_eq_true rfl)) ?_
      k_steps
      exact hQ ts' hT' hTc _ _ (by k_asm) (cb_drop N9 fun p hp => .tail _ (.tail _ (.tail _ (.tail _ (.tail _ (.tail _ (List.mem_append.mpr (.inr hp))))))))
end Mine
end
section
namespace Mine
@[reducible] noncomputable def rowT (fs : List (PySem.Str × Dat)) : PySem.Str := Txt.join (Str.ofString ",") (fs.map (·.1))
@[reducible] noncomputable def fitT (r : Nat) : PySem.Str := Txt.join (Str.ofString ",") (List.replicate (r + 1) (Str.ofString "7"))
/-- the plain law of one turn -/
structure PLaw (r : Nat) (ks : List PySem.Str) (fs : List (PySem.Str × Dat)) (b : Bool) (fi : Nat) : Prop where
  wlen : ∀ p ∈ fs, p.1.length ≤ 200
  rowl : (rowT fs).length ≤ 1000
  fitl : (fitT r).length ≤ 1000
  ok8 : ∀ d ∈ fs.map (·.2), kqdOk 8 d = true
  ok7 : ∀ d ∈ fs.map (·.2), kqdOk 7 d = true
  ok6 : ∀ d ∈ fs.map (·.2), kqdOk 6 d = true
  okg : ∀ d ∈ ks.map goodD, kqdOk 7 d = true
  okf : PyData.strOk (fitT r) = true
  n1 : ∀ acc, ToldR (rowT fs) 0 [] (some acc) → ∀ p ∈ acc, p.2 = false → (p.1 == PySem.Str.ofString "") = false → NumT p.1
  n2 : ∀ acc, ToldR (fitT r) 0 [] (some acc) → ∀ p ∈ acc, p.2 = false → (p.1 == PySem.Str.ofString "") = false → NumT p.1
  no : ¬ FitR (fitT r) ks none
  f1 : ∀ ds', FitR (rowT fs) ks (some ds') → b = true ∧ ds' = fs.map (·.2)
  f2 : FitR (rowT fs) ks none → b = false
  f3 : ∀ gd, FitR (fitT r) ks (some gd) → gd = ks.map goodD
  psn : (psOf (rowT fs)).length = ks.length
  psl : ∀ p ∈ psOf (rowT fs), p.length ≤ 1000
  psx : ∀ (i : Nat) p k, (psOf (rowT fs))[i]? = some p → ks[i]? = some k → (k == PySem.Str.ofString "text") = false → (p == PySem.Str.ofString "") = false → NumT p
  rd : ∀ ds' b', ReadL (psOf (rowT fs)) ks ds' b' → b' = b ∧ ds' = (fs.map (·.2)).take fi
  fle : fi ≤ (fs.map (·.2)).length
  ft : b = true → fi = r + 1
  ff : b = false → (fs.map (·.2))[fi]? = some Dat.none ∧ ∀ m, m < fi → (fs.map (·.2))[m]? ≠ some Dat.none
  fn : b = true ↔ Dat.none ∉ fs.map (·.2)
noncomputable def PlainLaw : Prop := ∀ (r : Nat) (ks : List PySem.Str) (fs : List (PySem.Str × Dat)), r < 3 → ks.length = r + 1 → (∀ k ∈ ks, k ∈ kndL) → fs.length = r + 1 → FldsR (r + 1) ks fs → ∃ b fi, PLaw r ks fs b fi
end Mine
end
section
set_option maxHeartbeats 4000000
namespace Mine
open PySem.StrLaws PySem.Builtin PySem.Builtin.Str
/-- the run of figures, with fuel -/
noncomputable def runN (x : PySem.Str) (b : Int) : Nat → Int → Int → Int × Int × Int
  | 0, f, j => (f, j - b, j)
  | k + 1, f, j => match (Lx x)[j.toNat]? with
    | none => (f, j - b, j)
    | some c => if 48 ≤ c ∧ c ≤ 57 ∧ j - b < 300 then runN x b k (10 * f + (c : Int) - 48) (j + 1) else (f, j - b, j)
theorem runN_eq {x : PySem.Str} {b f j : Int} {r : Int × Int × Int} (h : RunR x b f j r) : 0 ≤ j → ∀ k, (Lx x).length ≤ j.toNat + k → runN x b k f j = r := by
  induction h with
  | @stop f j hn =>
    intro h0 k hk
    cases k with
    | zero => rfl
    | succ k =>
      unfold runN
      cases hc : (Lx x)[j.toNat]? with
      | none => rfl
      | some c => simp only; rw [if_neg]; exact fun q => hn ⟨c, hc, q.1, q.2.1, q.2.2⟩
  | @go f j c r hc h1 h2 h3 _ ih =>
    intro h0 k hk
    cases k with
    | zero =>
      have := (List.getElem?_eq_some_iff.mp hc).1
      omega
    | succ k =>
      unfold runN
      rw [hc]
      simp only
      rw [if_pos ⟨h1, h2, h3⟩]
      exact ih (by omega) k (by omega)
noncomputable def numL (x : PySem.Str) : Option Int :=
  let r := runN x (j0 x) (Lx x).length 0 (j0 x)
  if r.2.1 = 0 ∨ r.2.2 ≠ (Txt.rstripChars x (PySem.Str.ofString " ")).length then none else some (cF x r.1)
theorem j0_ge (x : PySem.Str) : 0 ≤ j0 x := by unfold j0; split <;> omega
theorem numR_eq {x : PySem.Str} {o : Option Int} (h : NumR x o) : o = numL x := by
  obtain ⟨r, hr, h⟩ := h
  have e := runN_eq hr (j0_ge x) (Lx x).length (by omega)
  unfold numL
  simp only [e]
  rcases h with ⟨rfl, h⟩ | ⟨rfl, h1, h2⟩
  · rw [if_pos h]
  · rw [if_neg (fun q => q.elim h1 (fun q => q h2))]
noncomputable def vof (x : PySem.Str) (t : Bool) : Dat := if t then .str x else if (x == PySem.Str.ofString "") = true then .int 0 else oD (numL x)
theorem vof_eq {x k : PySem.Str} {d : Dat} (h : VofR x k d) : d = vof x (k == kText) := by
  unfold vof
  rcases h with ⟨h, rfl⟩ | ⟨h, h2, rfl⟩ | ⟨h, h2, o, ho, rfl⟩
  · rw [if_pos h]
  · rw [if_neg (by rw [h]; exact Bool.false_ne_true), if_pos h2]
  · rw [if_neg (by rw [h]; exact Bool.false_ne_true), if_neg (by rw [h2]; exact Bool.false_ne_true), numR_eq ho]
noncomputable def toO : Dat → Option Dat
  | .none => none
  | d => some d
theorem toO_ne {d : Dat} (h : d ≠ .none) : toO d = some d := by cases d <;> first | rfl | exact absurd rfl h
theorem toO_none {d : Dat} (h : toO d = none) : d = .none := by cases d <;> first | rfl | cases h
theorem toO_some {d e : Dat} (h : toO d = some e) : e = d ∧ d ≠ .none := by cases d <;> cases h <;> exact ⟨rfl, by intro q; cases q⟩
noncomputable def fitv (p : PySem.Str × Bool) (t : Bool) : Option Dat := if (p.2 && !t) = true then none else toO (vof p.1 t)
theorem fitv_eq {p : PySem.Str × Bool} {k : PySem.Str} {r : Option Dat} (h : FitV p k r) : r = fitv p (k == kText) := by
  have e : ∀ {b c : Bool}, (b = false ∨ c = true) → ¬ (b && !c) = true := by decide
  unfold fitv
  cases h with
  | spoilt h1 h2 => rw [if_pos (by rw [h1, h2]; rfl)]
  | miss h1 h2 => rw [if_neg (e h1), ← vof_eq h2]; rfl
  | some h1 h2 h3 => rw [if_neg (e h1), ← vof_eq h2, toO_ne h3]
noncomputable def readv (p : PySem.Str) (t : Bool) : Option Dat := if t then (textF p).map Dat.str else toO (vof p false)
theorem readv_eq {p k : PySem.Str} {r : Option Dat} (h : ReadV p k r) : r = readv p (k == kText) := by
  unfold readv
  cases h with
  | text h1 h2 => rw [if_pos h1, h2]; rfl
  | textNo h1 h2 => rw [if_pos h1, h2]; rfl
  | val h1 h2 h3 =>
    have := vof_eq h2
    rw [h1] at this
    rw [if_neg (by rw [h1]; exact Bool.false_ne_true), ← this, toO_ne h3]
  | valNo h1 h2 =>
    have := vof_eq h2
    rw [h1] at this
    rw [if_neg (by rw [h1]; exact Bool.false_ne_true), ← this]; rfl
noncomputable def numTB (x : PySem.Str) : Bool :=
  decide (x.length ≤ 1000) && ((Lx x).take 1).all (fun c => !isBlank c) && (Lx x).all (fun c => !(c == 69 || c == 101 || c == 68 || c == 100 || c == 46)) && (List.range (Lx x).length).all (fun j => decide (0 ≤ (runN x j (Lx x).length 0 j).1 ∧ (runN x j (Lx x).length 0 j).1 ≤ 99))
theorem numT_of {x : PySem.Str} (h : numTB x = true) : NumT x := by
  unfold numTB at h
  simp only [Bool.and_eq_true] at h
  obtain ⟨⟨⟨h1, h2⟩, h3⟩, h4⟩ := h
  have h3' := List.all_eq_true.mp h3
  refine ⟨of_decide_eq_true h1, fun c hc => ?_, fun c hc => ?_, fun c hc => ?_, fun j r hj hr => ?_⟩
  · have : c ∈ (Lx x).take 1 := List.mem_of_getElem? (i := 0) (by rw [List.getElem?_take]; simpa using hc)
    have := List.all_eq_true.mp h2 c this
    simpa using this
  · have := h3' c hc
    simp only [Bool.not_eq_true', Bool.or_eq_false_iff, beq_eq_false_iff_ne] at this
    exact ⟨this.1.1.1.1, this.1.1.1.2, this.1.1.2, this.1.2⟩
  · have := h3' c hc
    simp only [Bool.not_eq_true', Bool.or_eq_false_iff, beq_eq_false_iff_ne] at this
    exact this.2
  · obtain ⟨a, rfl⟩ := Int.eq_ofNat_of_zero_le hj
    by_cases ha : a < (Lx x).length
    · have e := runN_eq hr hj (Lx x).length (by omega)
      have := of_decide_eq_true (List.all_eq_true.mp h4 a (List.mem_range.mpr ha))
      rw [← e]; exact this
    · have e := runN_eq hr hj 0 (by simp only [Int.toNat_natCast]; omega)
      rw [← e]; exact ⟨Int.le_refl _, show (0 : Int) ≤ 99 by decide⟩
theorem tw_app {p : Nat → Bool} {R : List Nat} (hR : ∀ c, R.head? = some c → p c = false) : ∀ l : List Nat, (l ++ R).takeWhile p = l.takeWhile p ∧ (l ++ R).dropWhile p = l.dropWhile p ++ R
  | [] => by
    cases R with
    | nil => exact ⟨rfl, rfl⟩
    | cons c R => have := hR c rfl; simp [this]
  | c :: l => by
    have ih := tw_app hR l
    cases h : p c <;> simp [h, ih.1, ih.2]
theorem tw_len {p : Nat → Bool} (l : List Nat) : l = l.takeWhile p ++ l.dropWhile p := (List.takeWhile_append_dropWhile).symm
theorem fi_none {c : Nat} : ∀ {l : List Nat}, c ∉ l → ∀ R, (l ++ R).findIdx? (· == c) = (R.findIdx? (· == c)).map (· + l.length)
  | [], _, R => by simp
  | a :: l, h, R => by
    have ha : (a == c) = false := by rw [beq_eq_false_iff_ne]; rintro rfl; exact h (.head _)
    rw [List.cons_append, List.findIdx?_cons, ha, fi_none (fun q => h (.tail _ q)) R]
    cases R.findIdx? (· == c) <;> simp [Nat.add_assoc]
/-- a written field: none: not of these; some none: something stands behind quotes; some (text, in quotes) -/
noncomputable def clF (last : Bool) (l : List Nat) : Option (Option (PySem.Str × Bool)) :=
  match l.dropWhile isBlank with
  | [] => some (some (Txt.rstripChars (st []) (PySem.Str.ofString " \t"), false))
  | a :: r => if a = 34 then (match r.dropWhile (fun c => c != 34) with
      | [] => if last then some (some (st r, true)) else none
      | _ :: u => match u.dropWhile isBlank with
        | [] => some (some (st (r.takeWhile (fun c => c != 34)), true))
        | g :: _ => if g = 44 then none else some none)
    else if (a :: r).contains 44 then none else some (some (Txt.rstripChars (st (a :: r)) (PySem.Str.ofString " \t"), false))
end Mine
end
section
set_option maxHeartbeats 4000000
namespace Mine
open PySem.StrLaws PySem.Builtin PySem.Builtin.Str
theorem st_ne {a b : List Nat} (h : a ≠ b) : (st a == st b) = false := by
  rw [beq_eq_false_iff_ne]
  exact fun q => h (st_inj q)
theorem drop_pre {x : PySem.Str} {P r : List Nat} (h : Lx x = P ++ r) : (Lx x).drop P.length = r := by rw [h, List.drop_left]
theorem find_at {x : PySem.Str} {P r : List Nat} {c : Nat} (h : Lx x = P ++ r) : Txt.find3 x (st [c]) ((P.length : Nat) : Int) = match r.findIdx? (· == c) with | some k => ((P.length + k : Nat) : Int) | none => -1 := by
  rw [find3_eq (by omega)]
  unfold findC
  rw [Int.toNat_natCast, drop_pre h]
  cases r.findIdx? (· == c) with
  | none => rfl
  | some k => simp only [Option.map_some]; rw [Nat.add_comm]
theorem slice_at {x : PySem.Str} {P a r : List Nat} {e : Int} (h : Lx x = P ++ (a ++ r)) (he : e = ((P.length + a.length : Nat) : Int)) : Txt.slice x (some ((P.length : Nat) : Int)) (some e) = st a := by
  subst he
  rw [slice_ss_eq (by omega) (by omega), Int.toNat_natCast, Int.toNat_natCast, drop_pre h, Nat.add_sub_cancel_left, List.take_left]
theorem len_app {x : PySem.Str} {P r : List Nat} (h : Lx x = P ++ r) : x.length = P.length + r.length := by rw [← len_Lx, h, List.length_append]
theorem head_of {R : List Nat} (hR : R = [] ∨ ∃ R', R = 44 :: R') : ∀ c, R.head? = some c → isBlank c = false := by
  rintro c hc
  rcases hR with rfl | ⟨R', rfl⟩
  · cases hc
  · cases hc; rfl
theorem blank_at2 {x : PySem.Str} {P l R : List Nat} (h : Lx x = P ++ (l ++ R)) (hR : R = [] ∨ ∃ R', R = 44 :: R') : blankEnd x P.length = (P ++ l.takeWhile isBlank).length ∧ Lx x = (P ++ l.takeWhile isBlank) ++ (l.dropWhile isBlank ++ R) := by
  obtain ⟨e1, e2⟩ := tw_app (head_of hR) l
  refine ⟨?_, ?_⟩
  · unfold blankEnd
    rw [drop_pre h, e1, List.length_append]
  · rw [h, List.append_assoc, ← List.append_assoc (List.takeWhile _ _), ← tw_len l]
theorem bare_cl {x : PySem.Str} {P l R : List Nat} (h : Lx x = P ++ (l ++ R)) (hR : R = [] ∨ ∃ R', R = 44 :: R') (h1 : (l.dropWhile isBlank).head? ≠ some 34) (h2 : 44 ∉ l.dropWhile isBlank) :
    fieldF x ((P.length : Nat) : Int) = (some (Txt.rstripChars (st (l.dropWhile isBlank)) (PySem.Str.ofString " \t")), ((P.length + l.length : Nat) : Int), false) := by
  obtain ⟨e1, e2⟩ := blank_at2 h hR
  have hlen : (P ++ l.takeWhile isBlank).length + (l.dropWhile isBlank).length = P.length + l.length := by
    have := congrArg List.length (tw_len (p := isBlank) l)
    rw [List.length_append] at this
    rw [List.length_append]; omega
  have ex := len_app e2
  have ht : Txt.slice x (some (((P ++ l.takeWhile isBlank).length : Nat) : Int)) (some ((((P ++ l.takeWhile isBlank).length : Nat) : Int) + 1)) = st ((l.dropWhile isBlank ++ R).take 1) := by
    rw [slice_ss_eq (by omega) (by omega), Int.toNat_natCast, drop_pre e2]
    congr 2
    omega
  have hf : (if Txt.find3 x (PySem.Str.ofString ",") (((P ++ l.takeWhile isBlank).length : Nat) : Int) < 0 then (x.length : Int) else Txt.find3 x (PySem.Str.ofString ",") (((P ++ l.takeWhile isBlank).length : Nat) : Int)) = ((P.length + l.length : Nat) : Int) := by
    have hz := find_at (c := 44) e2
    rw [fi_none h2] at hz
    rw [e44]
    rcases hR with rfl | ⟨R', rfl⟩
    · have hz' : Txt.find3 x (st [44]) (((P ++ l.takeWhile isBlank).length : Nat) : Int) = -1 := hz
      rw [hz', if_pos (show (-1 : Int) < 0 by decide), ex, List.append_nil, hlen]
    · have hz' : Txt.find3 x (st [44]) (((P ++ l.takeWhile isBlank).length : Nat) : Int) = ((P.length + l.length : Nat) : Int) := by
        rw [hz]
        simp only [List.findIdx?_cons, beq_self_eq_true, if_true, Option.map_some, Nat.zero_add, hlen]
      rw [hz', if_neg (by omega)]
  unfold fieldF
  simp only [Int.toNat_natCast, e1]
  rw [ht, if_neg, hf, slice_at e2 (by rw [hlen])]
  rw [e34, st_ne]
  · exact Bool.false_ne_true
  · intro q
    cases hb : l.dropWhile isBlank with
    | nil =>
      rw [hb] at q
      rcases hR with rfl | ⟨R', rfl⟩ <;> cases q
    | cons a r =>
      rw [hb] at q h1
      simp at q h1
      exact h1 q
theorem quoted_head {x : PySem.Str} {P l R r : List Nat} (h : Lx x = P ++ (l ++ R)) (hR : R = [] ∨ ∃ R', R = 44 :: R') (h1 : l.dropWhile isBlank = 34 :: r) :
    fieldF x ((P.length : Nat) : Int) = (if (quotedF x (((P ++ l.takeWhile isBlank).length : Nat) : Int)).2 = x.length ∨ (Txt.item x (quotedF x (((P ++ l.takeWhile isBlank).length : Nat) : Int)).2 == PySem.Str.ofString ",") = true then some (quotedF x (((P ++ l.takeWhile isBlank).length : Nat) : Int)).1 else none, (quotedF x (((P ++ l.takeWhile isBlank).length : Nat) : Int)).2, true) := by
  obtain ⟨e1, e2⟩ := blank_at2 h hR
  have ht : Txt.slice x (some (((P ++ l.takeWhile isBlank).length : Nat) : Int)) (some ((((P ++ l.takeWhile isBlank).length : Nat) : Int) + 1)) = st ((l.dropWhile isBlank ++ R).take 1) := by
    rw [slice_ss_eq (by omega) (by omega), Int.toNat_natCast, drop_pre e2]
    congr 2
    omega
  unfold fieldF
  simp only [Int.toNat_natCast, e1]
  rw [ht, if_pos]
  rw [h1, e34]
  exact beq_self_eq_true _
/-- quoted, without an end -/
theorem quoted_open {x : PySem.Str} {P r : List Nat} (h : Lx x = P ++ 34 :: r) (h1 : 34 ∉ r) : quotedF x ((P.length : Nat) : Int) = (st r, (x.length : Int)) := by
  have h' : Lx x = (P ++ [34]) ++ r := by rw [h, List.append_assoc]; rfl
  have e : ((P.length : Nat) : Int) + 1 = (((P ++ [34]).length : Nat) : Int) := by rw [List.length_append]; rfl
  have hf : Txt.find3 x (PySem.Str.ofString "\"") (((P ++ [34]).length : Nat) : Int) = -1 := by
    rw [e34, find_at h']
    have := fi_none h1 []
    rw [List.append_nil] at this
    rw [this]; rfl
  unfold quotedF
  rw [e, hf, if_pos (by decide), slice_sn_eq (by omega), Int.toNat_natCast, drop_pre h']
/-- quoted, closed -/
theorem quoted_shut {x : PySem.Str} {P i u R : List Nat} (h : Lx x = P ++ 34 :: (i ++ 34 :: (u ++ R))) (h1 : 34 ∉ i) (hR : R = [] ∨ ∃ R', R = 44 :: R') : quotedF x ((P.length : Nat) : Int) = (st i, ((P.length + i.length + 2 + (u.takeWhile isBlank).length : Nat) : Int)) ∧ Lx x = (P ++ 34 :: (i ++ 34 :: u.takeWhile isBlank)) ++ (u.dropWhile isBlank ++ R) := by
  have h' : Lx x = (P ++ [34]) ++ (i ++ 34 :: (u ++ R)) := by rw [h, List.append_assoc]; rfl
  have h'' : Lx x = (P ++ 34 :: (i ++ [34])) ++ (u ++ R) := by rw [h]; simp
  have e : ((P.length : Nat) : Int) + 1 = (((P ++ [34]).length : Nat) : Int) := by rw [List.length_append]; rfl
  obtain ⟨e1, e2⟩ := blank_at2 h'' hR
  have hf : Txt.find3 x (PySem.Str.ofString "\"") (((P ++ [34]).length : Nat) : Int) = (((P ++ [34]).length + i.length : Nat) : Int) := by
    rw [e34, find_at h', fi_none h1]
    simp only [List.findIdx?_cons, beq_self_eq_true, if_true, Option.map_some, Nat.zero_add]
  refine ⟨?_, ?_⟩
  · unfold quotedF
    rw [e, hf, if_neg (by omega), slice_at h' rfl]
    congr 1
    have e3 : (((((P ++ [34]).length + i.length : Nat) : Int) + 1)).toNat = (P ++ 34 :: (i ++ [34])).length := by simp only [List.length_append, List.length_cons, List.length_nil]; omega
    rw [e3, e1]
    simp only [List.length_append, List.length_cons, List.length_nil]
    omega
  · rw [e2]; simp
theorem tw_no {c : Nat} : ∀ l : List Nat, c ∉ l.takeWhile (fun d => d != c)
  | [] => by simp
  | a :: l => by
    rw [List.takeWhile_cons]
    split
    · rename_i h
      intro q
      rcases List.mem_cons.mp q with rfl | q
      · simp at h
      · exact tw_no l q
    · simp
theorem dw_head {c a : Nat} {u : List Nat} : ∀ {l : List Nat}, l.dropWhile (fun d => d != c) = a :: u → a = c
  | [], h => by simp at h
  | b :: l, h => by
    rw [List.dropWhile_cons] at h
    split at h
    · exact dw_head h
    · rename_i h2
      cases h
      simpa using h2
theorem field_cl {x : PySem.Str} {P l R : List Nat} {last : Bool} {c : Option (PySem.Str × Bool)} (h : Lx x = P ++ (l ++ R)) (hR : R = [] ∨ ∃ R', R = 44 :: R') (hl : last = true → R = []) (hc : clF last l = some c) :
    (c = none → (fieldF x ((P.length : Nat) : Int)).1 = none) ∧ ∀ p, c = some p → fieldF x ((P.length : Nat) : Int) = (some p.1, ((P.length + l.length : Nat) : Int), p.2) := by
  obtain ⟨e1, e2⟩ := blank_at2 h hR
  have hlen : P.length + (l.takeWhile isBlank).length + (l.dropWhile isBlank).length = P.length + l.length := by
    have := congrArg List.length (tw_len (p := isBlank) l)
    rw [List.length_append] at this
    omega
  unfold clF at hc
  split at hc
  · rename_i hb
    cases hc
    refine ⟨fun q => (by cases q), fun p hp => ?_⟩
    cases hp
    have := bare_cl h hR (by rw [hb]; simp) (by rw [hb]; simp)
    rw [hb] at this
    exact this
  · rename_i a r hb
    split at hc
    · rename_i ha
      subst ha
      rw [quoted_head h hR hb]
      rw [hb] at e2 hlen
      rw [List.length_cons] at hlen
      have ex := len_app h
      rw [List.length_append] at ex
      split at hc
      · rename_i hd
        split at hc
        · rename_i hla
          cases hc
          have hR0 := hl hla
          subst hR0
          rw [List.append_nil] at e2
          have h34 : 34 ∉ r := by
            have := tw_no (c := 34) r
            have e := tw_len (p := fun d => d != 34) r
            rw [hd, List.append_nil] at e
            rwa [← e] at this
          rw [quoted_open e2 h34]
          refine ⟨fun q => (by cases q), fun p hp => ?_⟩
          cases hp
          simp only
          rw [if_pos (.inl trivial), ex]
          simp
        · cases hc
      · rename_i a0 u hd
        have ha0 := dw_head hd
        subst ha0
        have er : r = r.takeWhile (fun d => d != 34) ++ 34 :: u := by
          have e := tw_len (p := fun d => d != 34) r
          rwa [hd] at e
        have e3 : Lx x = (P ++ l.takeWhile isBlank) ++ 34 :: (r.takeWhile (fun d => d != 34) ++ 34 :: (u ++ R)) := by
          rw [e2, List.cons_append]
          refine congrArg (fun z => P ++ l.takeWhile isBlank ++ 34 :: z) ?_
          conv => lhs; rw [er]
          rw [List.append_assoc]
          rfl
        obtain ⟨q1, q2⟩ := quoted_shut e3 (tw_no r) hR
        have hrl : r.length = (r.takeWhile (fun d => d != 34)).length + 1 + u.length := by
          have := congrArg List.length er
          rw [List.length_append, List.length_cons] at this
          omega
        have hul : u.length = (u.takeWhile isBlank).length + (u.dropWhile isBlank).length := by
          have := congrArg List.length (tw_len (p := isBlank) u)
          rwa [List.length_append] at this
        rw [q1]
        simp only
        have hpl : (P ++ l.takeWhile isBlank).length = P.length + (l.takeWhile isBlank).length := List.length_append
        have hit : ∀ m : Nat, m = (P ++ l.takeWhile isBlank ++ 34 :: (r.takeWhile (fun d => d != 34) ++ 34 :: u.takeWhile isBlank)).length → ∀ g t, u.dropWhile isBlank ++ R = g :: t → Txt.item x (m : Int) = st [g] := by
          rintro m hm g t hg
          have hxl := len_app q2
          rw [hg, List.length_cons] at hxl
          rw [item_eq (by omega) (by omega), Int.toNat_natCast, List.getD_eq_getElem?_getD, q2, hg, hm, List.getElem?_append_right (Nat.le_refl _), Nat.sub_self]
          rfl
        have hml : (P ++ l.takeWhile isBlank).length + (r.takeWhile (fun d => d != 34)).length + 2 + (u.takeWhile isBlank).length = (P ++ l.takeWhile isBlank ++ 34 :: (r.takeWhile (fun d => d != 34) ++ 34 :: u.takeWhile isBlank)).length := by
          simp only [List.length_append, List.length_cons]; omega
        split at hc
        · rename_i hu
          cases hc
          rw [hu, List.length_nil] at hul
          refine ⟨fun q => (by cases q), fun p hp => ?_⟩
          cases hp
          have hm : (P ++ l.takeWhile isBlank).length + (r.takeWhile (fun d => d != 34)).length + 2 + (u.takeWhile isBlank).length = P.length + l.length := by omega
          rw [if_pos, hm]
          rcases hR with rfl | ⟨R', rfl⟩
          · left
            rw [ex, hm]; simp
          · right
            rw [hit _ hml 44 R' (by rw [hu]; rfl), e44]
            exact beq_self_eq_true _
        · rename_i g u' hu
          split at hc
          · cases hc
          · rename_i hg
            cases hc
            refine ⟨fun _ => ?_, fun p hp => (by cases hp)⟩
            rw [if_neg]
            rintro (q | q)
            · have hxl := len_app q2
              rw [hu, List.cons_append, List.length_cons] at hxl
              omega
            · rw [hit _ hml g (u' ++ R) (by rw [hu]; rfl), e44, st_ne (fun q => hg (by simpa using q))] at q
              cases q
    · rename_i ha
      split at hc
      · cases hc
      · rename_i h44
        cases hc
        refine ⟨fun q => (by cases q), fun p hp => ?_⟩
        cases hp
        have h44' : 44 ∉ a :: r := fun q => h44 (List.contains_iff_mem.mpr q)
        have := bare_cl h hR (by rw [hb]; simpa using ha) (by rw [hb]; exact h44')
        rw [hb] at this
        exact this
end Mine
end
section
set_option maxHeartbeats 4000000
namespace Mine
open PySem.StrLaws PySem.Builtin PySem.Builtin.Str
@[reducible] noncomputable def stripF (W : PySem.Str) : PySem.Str := Txt.stripChars W blk
noncomputable def pqL : List Nat → Bool → Option Bool
  | [], q => some q
  | c :: r, q => if c = 44 ∧ (if c = 34 then !q else q) = false then none else pqL r (if c = 34 then !q else q)
/-- one field: the kind is text or not, what is written, its value, what INPUT sees of it -/
structure GF (last t : Bool) (W : PySem.Str) (d : Dat) (c : Option (PySem.Str × Bool)) : Prop where
  cl : clF last (Lx W) = some c
  fit : ∀ p, c = some p → fitv p t = toO d
  bad : c = none → toO d = none
  num : ∀ p, c = some p → p.2 = false → (p.1 == PySem.Str.ofString "") = false → NumT p.1
  pq : ∃ q, pqL (Lx W) false = some q ∧ (last = false → q = false)
  rd : readv (stripF W) t = toO d
  pnum : t = false → (stripF W == PySem.Str.ofString "") = false → NumT (stripF W)
  plen : (stripF W).length ≤ 1000
  wlen : W.length ≤ 200
  ok : kqdOk 8 d = true ∧ kqdOk 7 d = true ∧ kqdOk 6 d = true
inductive Fl : List PySem.Str → List (PySem.Str × Dat) → List (Option (PySem.Str × Bool)) → Prop
  | one {k W d c} : GF true (k == kText) W d c → Fl [k] [(W, d)] [c]
  | cons {k W d c ks fs cs} : GF false (k == kText) W d c → Fl ks fs cs → Fl (k :: ks) ((W, d) :: fs) (c :: cs)
noncomputable def J : List (List Nat) → List Nat
  | [] => []
  | [w] => w
  | w :: v :: r => w ++ 44 :: J (v :: r)
theorem J_cons {ks fs cs} (h : Fl ks fs cs) (w : List Nat) : J (w :: fs.map (fun p => Lx p.1)) = w ++ 44 :: J (fs.map (fun p => Lx p.1)) := by
  cases h <;> rfl
noncomputable def seqO {α : Type} : List (Option α) → Option (List α)
  | [] => some []
  | none :: _ => none
  | some a :: r => (seqO r).map (a :: ·)
theorem told_fl {ks : List PySem.Str} {fs : List (PySem.Str × Dat)} {cs : List (Option (PySem.Str × Bool))} (hF : Fl ks fs cs) : ∀ (P : List Nat) (x : PySem.Str) (acc : List (PySem.Str × Bool)) (r : Option (List (PySem.Str × Bool))), Lx x = P ++ J (fs.map (fun p => Lx p.1)) → ToldR x ((P.length : Nat) : Int) acc r → r = (seqO cs).map (acc ++ ·) := by
  induction hF with
  | @one k W d c g =>
    intro P x acc r hx hT
    have hx' : Lx x = P ++ (Lx W ++ []) := by rw [List.append_nil]; exact hx
    obtain ⟨h1, h2⟩ := field_cl hx' (.inl rfl) (fun _ => rfl) g.cl
    have hl := len_app hx'
    rw [List.append_nil] at hl
    cases c with
    | none =>
      have := h1 rfl
      cases hT with
      | none _ => rfl
      | last q _ => rw [this] at q; cases q
      | more q _ _ => rw [this] at q; cases q
    | some p =>
      have e := h2 p rfl
      cases hT with
      | none q => rw [e] at q; cases q
      | last q _ => rw [e] at q ⊢; cases q; rfl
      | more _ q _ => rw [e] at q; simp only at q; omega
  | @cons k W d c ks fs cs g hf ih =>
    intro P x acc r hx hT
    have hx' : Lx x = P ++ (Lx W ++ 44 :: J (fs.map (fun p => Lx p.1))) := by rw [hx, List.map_cons, J_cons hf]
    obtain ⟨h1, h2⟩ := field_cl hx' (.inr ⟨_, rfl⟩) (fun q => by cases q) g.cl
    have hl := len_app hx'
    rw [List.length_append, List.length_cons] at hl
    cases c with
    | none =>
      have := h1 rfl
      cases hT with
      | none _ => rfl
      | last q _ => rw [this] at q; cases q
      | more q _ _ => rw [this] at q; cases q
    | some p =>
      have e := h2 p rfl
      cases hT with
      | none q => rw [e] at q; cases q
      | last _ q => rw [e] at q; simp only at q; omega
      | more q _ hT =>
        rw [e] at q hT
        cases q
        have hp : ((((P.length + (Lx W).length : Nat) : Int)) + 1) = (((P ++ (Lx W ++ [44])).length : Nat) : Int) := by
          simp only [List.length_append, List.length_cons, List.length_nil]; omega
        simp only at hT
        rw [hp] at hT
        have := ih (P ++ (Lx W ++ [44])) x _ r (by rw [hx']; simp) hT
        rw [this]
        simp only [seqO]
        cases seqO cs <;> simp
theorem seq_fl {ks : List PySem.Str} {fs : List (PySem.Str × Dat)} {cs : List (Option (PySem.Str × Bool))} (hF : Fl ks fs cs) : (seqO cs = none → seqO (fs.map (fun p => toO p.2)) = none) ∧
    ∀ acc, seqO cs = some acc → acc.length = ks.length ∧ (∀ p ∈ acc, p.2 = false → (p.1 == PySem.Str.ofString "") = false → NumT p.1) ∧ ∀ r, FitL acc ks r → r = seqO (fs.map (fun p => toO p.2)) := by
  induction hF with
  | @one k W d c g =>
    cases c with
    | none => exact ⟨fun _ => (by simp only [List.map_cons, g.bad rfl, seqO]), fun acc h => (by cases h)⟩
    | some p =>
      refine ⟨fun h => (by cases h), fun acc h => ?_⟩
      cases h
      refine ⟨rfl, fun q hq => ?_, fun r hr => ?_⟩
      · rw [List.mem_singleton.mp hq]; exact g.num p rfl
      · have hf := g.fit p rfl
        cases hr with
        | bad h => rw [← fitv_eq h] at hf; simp only [List.map_cons, ← hf, seqO]
        | step h hr =>
          rw [← fitv_eq h] at hf
          cases hr
          simp only [List.map_cons, List.map_nil, ← hf, seqO]
  | @cons k W d c ks fs cs g hf ih =>
    cases c with
    | none => exact ⟨fun _ => (by simp only [List.map_cons, g.bad rfl, seqO]), fun acc h => (by cases h)⟩
    | some p =>
      have hfv := g.fit p rfl
      refine ⟨fun h => ?_, fun acc h => ?_⟩
      · simp only [seqO] at h
        rw [Option.map_eq_none_iff] at h
        simp only [List.map_cons]
        cases toO d with
        | none => rfl
        | some e => simp only [seqO]; rw [ih.1 h]; rfl
      · simp only [seqO] at h
        obtain ⟨acc', ha, rfl⟩ := Option.map_eq_some_iff.mp h
        obtain ⟨h1, h2, h3⟩ := ih.2 acc' ha
        refine ⟨by rw [List.length_cons, List.length_cons, h1], fun q hq => ?_, fun r hr => ?_⟩
        · rcases List.mem_cons.mp hq with rfl | hq
          · exact g.num _ rfl
          · exact h2 q hq
        · cases hr with
          | bad h => rw [← fitv_eq h] at hfv; simp only [List.map_cons, ← hfv, seqO]
          | step h hr =>
            rw [← fitv_eq h] at hfv
            simp only [List.map_cons, ← hfv, seqO, ← h3 _ hr]
theorem fit_fl {ks : List PySem.Str} {fs : List (PySem.Str × Dat)} {cs : List (Option (PySem.Str × Bool))} (hF : Fl ks fs cs) {x : PySem.Str} (hx : Lx x = J (fs.map (fun p => Lx p.1))) {r : Option (List Dat)} (h : FitR x ks r) : r = seqO (fs.map (fun p => toO p.2)) := by
  have ht : ∀ r, ToldR x 0 [] r → r = seqO cs := fun r hr => by
    have := told_fl hF [] x [] r hx hr
    rw [this]
    cases seqO cs <;> simp
  obtain ⟨s1, s2⟩ := seq_fl hF
  cases h with
  | none h => exact (s1 (ht _ h).symm).symm
  | many h hne => exact absurd (s2 _ (ht _ h).symm).1 hne
  | fit h _ hl => exact (s2 _ (ht _ h).symm).2.2 _ hl
theorem num_fl {ks : List PySem.Str} {fs : List (PySem.Str × Dat)} {cs : List (Option (PySem.Str × Bool))} (hF : Fl ks fs cs) {x : PySem.Str} (hx : Lx x = J (fs.map (fun p => Lx p.1))) : ∀ acc, ToldR x 0 [] (some acc) → ∀ p ∈ acc, p.2 = false → (p.1 == PySem.Str.ofString "") = false → NumT p.1 := fun acc h => by
  have := told_fl hF [] x [] _ hx h
  have e : seqO cs = some acc := by
    rw [this]
    cases seqO cs <;> simp
  exact ((seq_fl hF).2 acc e).2.1
theorem nil_app (l : List Nat) : PySem.Str.ofString "" ++ st l = st l := by
  have e : PySem.Str.ofString "" = st [] := by decide +kernel
  rw [e, st_app, List.nil_append]
theorem pq_fold : ∀ (l : List Nat) (q q' : Bool), pqL l q = some q' → ∀ (acc : List PySem.Str) (cur : PySem.Str), (l.map (fun (c : Nat) => (c : Int))).foldl pcStep (acc, cur, q) = (acc, cur ++ st l, q')
  | [], q, q', h, acc, cur => by
    cases h
    show (acc, cur, q) = (acc, cur ++ st [], q)
    have : cur ++ st [] = cur := Lx_inj (by rw [show cur = st (Lx cur) from rfl, st_app, List.append_nil])
    rw [this]
  | c :: r, q, q', h, acc, cur => by
    unfold pqL at h
    by_cases hn : c = 44 ∧ (if c = 34 then !q else q) = false
    · rw [if_pos hn] at h; cases h
    · rw [if_neg hn] at h
      rw [List.map_cons, List.foldl_cons]
      have e : pcStep (acc, cur, q) (c : Int) = (acc, cur ++ st [c], if c = 34 then !q else q) := by
        unfold pcStep
        have h34 : ((c : Int) = 34) = (c = 34) := by simp only [eq_iff_iff]; omega
        have h44 : ((c : Int) = 44) = (c = 44) := by simp only [eq_iff_iff]; omega
        simp only [h34, h44]
        rw [if_neg hn]
        rfl
      rw [e, pq_fold r _ q' h]
      have : cur ++ st [c] ++ st r = cur ++ st (c :: r) := Lx_inj (by rw [show cur = st (Lx cur) from rfl, st_app, st_app, st_app]; simp)
      rw [this]
theorem pcs_fl {ks : List PySem.Str} {fs : List (PySem.Str × Dat)} {cs : List (Option (PySem.Str × Bool))} (hF : Fl ks fs cs) : ∀ acc : List PySem.Str,
    (((J (fs.map (fun p => Lx p.1))).map (fun (c : Nat) => (c : Int))).foldl pcStep (acc, PySem.Str.ofString "", false)).1 ++ [Txt.stripChars (((J (fs.map (fun p => Lx p.1))).map (fun (c : Nat) => (c : Int))).foldl pcStep (acc, PySem.Str.ofString "", false)).2.1 blk] = acc ++ fs.map (fun p => stripF p.1) := by
  induction hF with
  | @one k W d c g =>
    intro acc
    obtain ⟨q, hq, _⟩ := g.pq
    have := pq_fold (Lx W) false q hq acc (PySem.Str.ofString "")
    show (((Lx W).map (fun (c : Nat) => (c : Int))).foldl pcStep (acc, PySem.Str.ofString "", false)).1 ++ [Txt.stripChars (((Lx W).map (fun (c : Nat) => (c : Int))).foldl pcStep (acc, PySem.Str.ofString "", false)).2.1 blk] = _
    rw [this, nil_app, st_Lx]
    rfl
  | @cons k W d c ks fs cs g hf ih =>
    intro acc
    obtain ⟨q, hq, hq2⟩ := g.pq
    obtain rfl := hq2 rfl
    have e1 := pq_fold (Lx W) false false hq acc (PySem.Str.ofString "")
    rw [nil_app, st_Lx] at e1
    have e2 : pcStep (acc, W, false) ((44 : Nat) : Int) = (acc ++ [stripF W], PySem.Str.ofString "", false) := rfl
    have e3 : ((J (((W, d) :: fs).map (fun p => Lx p.1))).map (fun (c : Nat) => (c : Int))).foldl pcStep (acc, PySem.Str.ofString "", false) = ((J (fs.map (fun p => Lx p.1))).map (fun (c : Nat) => (c : Int))).foldl pcStep (acc ++ [stripF W], PySem.Str.ofString "", false) := by
      rw [List.map_cons, J_cons hf, List.map_append, List.foldl_append, e1, List.map_cons, List.foldl_cons, e2]
    rw [e3, ih]
    simp
noncomputable def rdF : List Dat → List Dat × Bool
  | [] => ([], true)
  | d :: r => match toO d with
    | none => ([], false)
    | some _ => (d :: (rdF r).1, (rdF r).2)
theorem read_fl {ks : List PySem.Str} {fs : List (PySem.Str × Dat)} {cs : List (Option (PySem.Str × Bool))} (hF : Fl ks fs cs) : ∀ ds b, ReadL (fs.map (fun p => stripF p.1)) ks ds b → (ds, b) = rdF (fs.map (·.2)) := by
  induction hF with
  | @one k W d c g =>
    intro ds b h
    have hr := g.rd
    cases h with
    | bad h => rw [← readv_eq h] at hr; simp only [List.map_cons, List.map_nil, rdF, ← hr]
    | step h h2 =>
      rw [← readv_eq h] at hr
      cases h2
      obtain ⟨rfl, _⟩ := toO_some hr.symm
      simp only [List.map_cons, List.map_nil, rdF, ← hr]
  | @cons k W d c ks fs cs g hf ih =>
    intro ds b h
    have hr := g.rd
    cases h with
    | bad h => rw [← readv_eq h] at hr; simp only [List.map_cons, rdF, ← hr]
    | step h h2 =>
      rw [← readv_eq h] at hr
      obtain ⟨rfl, _⟩ := toO_some hr.symm
      have := ih _ _ h2
      simp only [List.map_cons, rdF, ← hr, ← this]
theorem rdF_take : ∀ ds : List Dat, (rdF ds).1 = ds.take (rdF ds).1.length
  | [] => rfl
  | d :: r => by
    unfold rdF
    cases toO d with
    | none => rfl
    | some e => simp only [List.length_cons, List.take_succ_cons]; rw [← rdF_take r]
theorem rdF_le : ∀ ds : List Dat, (rdF ds).1.length ≤ ds.length := fun ds => by
  rw [rdF_take ds, List.length_take]; omega
theorem rdF_true : ∀ ds : List Dat, (rdF ds).2 = true → (rdF ds).1.length = ds.length
  | [], _ => rfl
  | d :: r, h => by
    unfold rdF at h ⊢
    cases hd : toO d with
    | none => cases hd ▸ h
    | some e =>
      rw [hd] at h
      exact congrArg (· + 1) (rdF_true r h)
theorem rdF_false : ∀ ds : List Dat, (rdF ds).2 = false → ds[(rdF ds).1.length]? = some Dat.none ∧ ∀ m, m < (rdF ds).1.length → ds[m]? ≠ some Dat.none
  | [], h => by cases h
  | d :: r, h => by
    unfold rdF at h ⊢
    cases hd : toO d with
    | none => rw [toO_none hd]; exact ⟨rfl, fun m hm => absurd hm (Nat.not_lt_zero m)⟩
    | some e =>
      rw [hd] at h
      simp only at h
      obtain ⟨h1, h2⟩ := rdF_false r h
      refine ⟨by simpa using h1, fun m hm => ?_⟩
      cases m with
      | zero => intro q; cases q; cases hd
      | succ m => simpa using h2 m (by simpa using hm)
theorem rdF_iff : ∀ ds : List Dat, (rdF ds).2 = true ↔ Dat.none ∉ ds
  | [] => by simp [rdF]
  | d :: r => by
    unfold rdF
    cases hd : toO d with
    | none => rw [toO_none hd]; simp
    | some e =>
      simp only
      rw [rdF_iff r]
      have : Dat.none ≠ d := fun q => by rw [← q] at hd; cases hd
      simp [this]
theorem seq_rd : ∀ ds : List Dat, seqO (ds.map toO) = if (rdF ds).2 = true then some ds else none
  | [] => rfl
  | d :: r => by
    unfold rdF
    cases hd : toO d with
    | none => simp [hd, seqO]
    | some e =>
      obtain ⟨rfl, _⟩ := toO_some hd
      simp only [List.map_cons, hd, seqO]
      rw [seq_rd r]
      split <;> simp_all
theorem join_J : ∀ ws : List PySem.Str, Lx (Txt.join (PySem.Str.ofString ",") ws) = J (ws.map Lx) := by
  have h : ∀ ws : List PySem.Str, Lx (PySem.Str.join (PySem.Str.ofString ",") ws) = J (ws.map Lx) := by
    intro ws
    induction ws with
    | nil => rfl
    | cons w r ih =>
      cases r with
      | nil => rfl
      | cons v r =>
        have e : PySem.Str.join (PySem.Str.ofString ",") (w :: v :: r) = w ++ PySem.Str.ofString "," ++ PySem.Str.join (PySem.Str.ofString ",") (v :: r) := rfl
        rw [e, e44]
        show (w.cps ++ (st [44]).cps ++ (PySem.Str.join (st [44]) (v :: r)).cps).toList = _
        rw [e44] at ih
        simp only [Array.toList_append]
        rw [show (PySem.Str.join (st [44]) (v :: r)).cps.toList = _ from ih]
        simp [J, st]
  intro ws
  rw [← h ws]
  exact congrArg Lx (glued_eq_join _ ws)
theorem J_len : ∀ ws : List (List Nat), (∀ w ∈ ws, w.length ≤ 200) → (J ws).length ≤ 201 * ws.length
  | [], _ => by simp [J]
  | [w], h => by
    have := h w (.head _)
    simp only [J, List.length_cons, List.length_nil]; omega
  | w :: v :: r, h => by
    have h1 := h w (.head _)
    have h2 := J_len (v :: r) (fun u hu => h u (.tail _ hu))
    simp only [J, List.length_append, List.length_cons] at h2 ⊢
    omega
end Mine
end
section
set_option maxHeartbeats 4000000
namespace Mine
open PySem.StrLaws PySem.Builtin PySem.Builtin.Str
noncomputable def intB (b : Dat) (y : Int) : Bool := match b with | .int x => x == y | _ => false
theorem intB_eq {b : Dat} {y : Int} (h : intB b y = true) : b = .int y := by
  cases b <;> first | (cases h; done) | exact congrArg Dat.int (eq_of_beq h)
noncomputable def strB (b : Dat) (y : PySem.Str) : Bool := match b with | .str x => x == y | _ => false
theorem strB_eq {b : Dat} {y : PySem.Str} (h : strB b y = true) : b = .str y := by
  cases b <;> first | (cases h; done) | exact congrArg Dat.str (eq_of_beq h)
noncomputable def int2 (a b : Dat) : Bool := match a with | .int x => intB b x | _ => false
theorem int2_eq {a b : Dat} (h : int2 a b = true) : a = b := by
  cases a <;> first | (cases h; done) | exact (intB_eq h).symm
noncomputable def pair1 : List Dat → List Dat → Bool
  | [], l => l.isEmpty
  | x :: r, l => match l with | [] => false | u :: v => int2 x u && pair1 r v
theorem pair1_eq : ∀ {a b : List Dat}, pair1 a b = true → a = b
  | [], [], _ => rfl
  | [], _ :: _, h => by cases h
  | _ :: _, [], h => by cases h
  | x :: r, u :: v, h => by
    have h' : (int2 x u && pair1 r v) = true := h
    rw [Bool.and_eq_true] at h'
    rw [int2_eq h'.1, pair1_eq h'.2]
noncomputable def tupB (b : Dat) (l : List Dat) : Bool := match b with | .tuple m => pair1 l m | _ => false
theorem tupB_eq {b : Dat} {l : List Dat} (h : tupB b l = true) : b = .tuple l := by
  cases b <;> first | (cases h; done) | exact congrArg Dat.tuple (pair1_eq h).symm
noncomputable def isNo (b : Dat) : Bool := match b with | .none => true | _ => false
noncomputable def datB (a b : Dat) : Bool := match a with
  | .none => isNo b
  | .int x => intB b x
  | .str x => strB b x
  | .tuple l => tupB b l
  | _ => false
theorem datB_eq {a b : Dat} (h : datB a b = true) : a = b := by
  cases a <;> first | (cases h; done) | exact (intB_eq h).symm | exact (strB_eq h).symm | exact (tupB_eq h).symm | (cases b <;> first | rfl | cases h)
noncomputable def odB : Option Dat → Option Dat → Bool
  | none, none => true
  | some a, some b => datB a b
  | _, _ => false
theorem odB_eq {a b : Option Dat} (h : odB a b = true) : a = b := by
  unfold odB at h
  split at h
  · rfl
  · rw [datB_eq h]
  · cases h
noncomputable def chkC (t : Bool) (d : Dat) : Option (Option (PySem.Str × Bool)) → Bool
  | none => false
  | some none => (toO d).isNone
  | some (some p) => odB (fitv p t) (toO d) && (p.2 || (p.1 == PySem.Str.ofString "" || numTB p.1))
noncomputable def chkQ (last : Bool) : Option Bool → Bool
  | none => false
  | some q => last || !q
noncomputable def chkW (last t : Bool) (W : PySem.Str) (d : Dat) : Bool :=
  chkC t d (clF last (Lx W)) && (chkQ last (pqL (Lx W) false) && (odB (readv (stripF W) t) (toO d) && ((t || (stripF W == PySem.Str.ofString "" || numTB (stripF W))) && (decide ((stripF W).length ≤ 1000) && (decide (W.length ≤ 200) && (kqdOk 8 d && (kqdOk 7 d && kqdOk 6 d)))))))
theorem gf_of {last t : Bool} {W : PySem.Str} {d : Dat} (h : chkW last t W d = true) : ∃ c, GF last t W d c := by
  unfold chkW at h
  simp only [Bool.and_eq_true] at h
  obtain ⟨h1, h2, h3, h4, h5, h6, h7, h8, h9⟩ := h
  cases hc : clF last (Lx W) with
  | none => rw [hc] at h1; cases h1
  | some c =>
    rw [hc] at h1
    refine ⟨c, hc, fun p hp => ?_, fun hn => ?_, fun p hp hp2 hp3 => ?_, ?_, odB_eq h3, fun ht hs => ?_, of_decide_eq_true h5, of_decide_eq_true h6, h7, h8, h9⟩
    · subst hp
      simp only [chkC, Bool.and_eq_true] at h1
      exact odB_eq h1.1
    · subst hn
      exact Option.isNone_iff_eq_none.mp h1
    · subst hp
      simp only [chkC, Bool.and_eq_true, hp2, hp3, Bool.false_or] at h1
      exact numT_of h1.2
    · cases hq : pqL (Lx W) false with
      | none => rw [hq] at h2; cases h2
      | some q =>
        rw [hq] at h2
        refine ⟨q, rfl, fun hl => ?_⟩
        subst hl
        simpa [chkQ] using h2
    · subst ht
      rw [hs, Bool.false_or, Bool.false_or] at h4
      exact numT_of h4
noncomputable def chkN (last t : Bool) (n : Int) : Bool := (List.range 9).all fun j => match (lfTab n)[j]? with
  | none => true
  | some q => chkW last t (lfOne last n j q).1 (if t then oDat (lfOne last n j q).2.1 else (lfOne last n j q).2.2)
theorem chk_tt : (List.range 31).all (fun i => chkN true true ((i : Int) - 5)) = true := by decide +kernel
theorem chk_tf : (List.range 31).all (fun i => chkN true false ((i : Int) - 5)) = true := by decide +kernel
theorem chk_ft : (List.range 31).all (fun i => chkN false true ((i : Int) - 5)) = true := by decide +kernel
theorem chk_ff : (List.range 31).all (fun i => chkN false false ((i : Int) - 5)) = true := by decide +kernel
theorem chk_all (last t : Bool) : (List.range 31).all (fun i => chkN last t ((i : Int) - 5)) = true := by
  cases last <;> cases t
  · exact chk_ff
  · exact chk_ft
  · exact chk_tf
  · exact chk_tt
end Mine
end
section
set_option maxHeartbeats 4000000
namespace Mine
open PySem.StrLaws PySem.Builtin PySem.Builtin.Str
theorem lf_gf {last : Bool} {k W : PySem.Str} {d : Dat} (h : LfR last k W d) : ∃ c, GF last (k == kText) W d c := by
  obtain ⟨j, n, q, h0, h1, hq, rfl, rfl⟩ := h
  refine gf_of ?_
  have ha := List.all_eq_true.mp (chk_all last (k == kText)) (n + 5).toNat (List.mem_range.mpr (by omega))
  have e : (((n + 5).toNat : Nat) : Int) - 5 = n := by omega
  rw [e] at ha
  have hj : j < 9 := by
    have := (List.getElem?_eq_some_iff.mp hq).1
    exact this
  have hb := List.all_eq_true.mp ha j (List.mem_range.mpr hj)
  rw [hq] at hb
  exact hb
theorem fl_of : ∀ (fs : List (PySem.Str × Dat)) (ks : List PySem.Str), fs ≠ [] → ks.length = fs.length → (∀ (i : Nat) W d, fs[i]? = some (W, d) → ∃ k, ks[i]? = some k ∧ LfR (decide (i + 1 = fs.length)) k W d) → ∃ cs, Fl ks fs cs
  | [], _, h, _, _ => absurd rfl h
  | [(W, d)], ks, _, hl, h => by
    obtain ⟨k, hk, hL⟩ := h 0 W d rfl
    match ks, hl, hk with
    | [k'], _, hk =>
      cases hk
      obtain ⟨c, g⟩ := lf_gf hL
      exact ⟨_, .one g⟩
  | (W, d) :: p :: fs, ks, _, hl, h => by
    obtain ⟨k, hk, hL⟩ := h 0 W d rfl
    match ks, hl, hk with
    | k' :: ks', hl, hk =>
      cases hk
      have e : decide (0 + 1 = ((W, d) :: p :: fs).length) = false := decide_eq_false (by simp only [List.length_cons]; omega)
      rw [e] at hL
      obtain ⟨c, g⟩ := lf_gf hL
      obtain ⟨cs, hF⟩ := fl_of (p :: fs) ks' (by simp) (by simpa using hl) (fun i W d hi => by
        obtain ⟨k, hk, hL⟩ := h (i + 1) W d (by simpa using hi)
        refine ⟨k, by simpa using hk, ?_⟩
        have e : decide (i + 1 + 1 = ((W, d) :: p :: fs).length) = decide (i + 1 = (p :: fs).length) := by simp only [List.length_cons]; congr 1; simp
        simpa using hL)
      exact ⟨_, .cons g hF⟩
@[reducible] noncomputable def sev : PySem.Str := Str.ofString "7"
theorem gf7 (last : Bool) (k : PySem.Str) : ∃ c, GF last (k == kText) sev (goodD k) c := by
  refine gf_of ?_
  unfold goodD
  cases (k == kText) with
  | true => cases last <;> decide +kernel
  | false => cases last <;> decide +kernel
theorem fl7 : ∀ ks : List PySem.Str, ks ≠ [] → ∃ cs, Fl ks (ks.map fun k => (sev, goodD k)) cs
  | [], h => absurd rfl h
  | [k], _ => by
    obtain ⟨c, g⟩ := gf7 true k
    exact ⟨_, .one g⟩
  | k :: k' :: ks, _ => by
    obtain ⟨c, g⟩ := gf7 false k
    obtain ⟨cs, hF⟩ := fl7 (k' :: ks) (by simp)
    exact ⟨_, .cons g hF⟩
theorem fl_all {P : PySem.Str → Dat → Prop} (hP : ∀ last t W d c, GF last t W d c → P W d) {ks fs cs} (hF : Fl ks fs cs) : ∀ p ∈ fs, P p.1 p.2 := by
  induction hF with
  | one g => intro p hp; rw [List.mem_singleton.mp hp]; exact hP _ _ _ _ _ g
  | cons g _ ih =>
    intro p hp
    rcases List.mem_cons.mp hp with rfl | hp
    · exact hP _ _ _ _ _ g
    · exact ih p hp
theorem fl_at {ks fs cs} (hF : Fl ks fs cs) : ∀ (i : Nat) p k, (fs.map (fun p => stripF p.1))[i]? = some p → ks[i]? = some k → (k == PySem.Str.ofString "text") = false → (p == PySem.Str.ofString "") = false → NumT p := by
  induction hF with
  | one g =>
    intro i p k hp hk h1 h2
    cases i with
    | zero => cases hp; cases hk; exact g.pnum h1 h2
    | succ i => cases hp
  | cons g _ ih =>
    intro i p k hp hk h1 h2
    cases i with
    | zero => cases hp; cases hk; exact g.pnum h1 h2
    | succ i => exact ih i p k hp hk h1 h2
theorem ps_fl {ks fs cs} (hF : Fl ks fs cs) : psOf (rowT fs) = fs.map (fun p => stripF p.1) := by
  have := pcs_fl hF []
  have e : KStt.codes (rowT fs) = (J (fs.map (fun p => Lx p.1))).map (fun (c : Nat) => (c : Int)) := by
    unfold KStt.codes
    have := join_J (fs.map (·.1))
    rw [List.map_map] at this
    exact congrArg (List.map _) this
  unfold psOf pcFold
  rw [e]
  exact this
theorem row_J (fs : List (PySem.Str × Dat)) : Lx (rowT fs) = J (fs.map (fun p => Lx p.1)) := by
  have := join_J (fs.map (·.1))
  rw [List.map_map] at this
  exact this
theorem row_len {fs : List (PySem.Str × Dat)} (h : ∀ p ∈ fs, p.1.length ≤ 200) (hn : fs.length ≤ 3) : (rowT fs).length ≤ 1000 := by
  rw [← len_Lx, row_J]
  have := J_len (fs.map (fun p => Lx p.1)) (fun w hw => by
    obtain ⟨p, hp, rfl⟩ := List.mem_map.mp hw
    rw [len_Lx]
    exact h p hp)
  rw [List.length_map] at this
  omega
theorem fit_row {ks : List PySem.Str} {r : Nat} (h : ks.length = r + 1) : fitT r = rowT (ks.map fun k => (sev, goodD k)) := by
  unfold fitT rowT
  rw [List.map_map, ← h, ← List.map_const']
  rfl
theorem fit_strOk {r : Nat} (h : r < 3) : PyData.strOk (fitT r) = true := by
  have : r = 0 ∨ r = 1 ∨ r = 2 := by omega
  rcases this with rfl | rfl | rfl <;> decide +kernel
theorem seq_fs (fs : List (PySem.Str × Dat)) : seqO (fs.map (fun p => toO p.2)) = if (rdF (fs.map (·.2))).2 = true then some (fs.map (·.2)) else none := by
  have := seq_rd (fs.map (·.2))
  rw [List.map_map] at this
  exact this
theorem good_ne (k : PySem.Str) : goodD k ≠ .none := by
  unfold goodD
  split <;> intro q <;> cases q
theorem plain_law : PlainLaw := by
  intro r ks fs hr hk hkd hf hF
  have hne : fs ≠ [] := fun q => by rw [q] at hf; cases hf
  obtain ⟨cs, F⟩ := fl_of fs ks hne (by omega) (fun i W d hi => by
    obtain ⟨k, h1, h2⟩ := hF i W d hi
    exact ⟨k, h1, by rw [hf]; exact h2⟩)
  obtain ⟨cs7, F7⟩ := fl7 ks (fun q => by rw [q] at hk; cases hk)
  have e7 := fit_row hk
  have hg : (rdF ((ks.map fun k => (sev, goodD k)).map (·.2))).2 = true := by
    refine (rdF_iff _).mpr fun q => ?_
    rw [List.map_map] at q
    obtain ⟨k, _, hk⟩ := List.mem_map.mp q
    exact good_ne k hk
  have hgm : (ks.map fun k => (sev, goodD k)).map (·.2) = ks.map goodD := by rw [List.map_map]; rfl
  have hfit : ∀ o, FitR (fitT r) ks o → o = some (ks.map goodD) := fun o ho => by
    rw [e7] at ho
    have := fit_fl F7 (row_J _) ho
    rw [seq_fs, if_pos hg, hgm] at this
    exact this
  have hrow : ∀ o, FitR (rowT fs) ks o → o = if (rdF (fs.map (·.2))).2 = true then some (fs.map (·.2)) else none := fun o ho => by
    rw [← seq_fs]
    exact fit_fl F (row_J _) ho
  have hw := fl_all (P := fun W _ => W.length ≤ 200) (fun _ _ _ _ _ g => g.wlen) F
  have hok := fl_all (P := fun _ d => kqdOk 8 d = true ∧ kqdOk 7 d = true ∧ kqdOk 6 d = true) (fun _ _ _ _ _ g => g.ok) F
  have hok7 := fl_all (P := fun _ d => kqdOk 7 d = true) (fun _ _ _ _ _ g => g.ok.2.1) F7
  have hw7 := fl_all (P := fun W _ => W.length ≤ 200) (fun _ _ _ _ _ g => g.wlen) F7
  have hps := ps_fl F
  have hmem : ∀ {P : Dat → Prop}, (∀ p ∈ fs, P p.2) → ∀ d ∈ fs.map (·.2), P d := fun h d hd => by
    obtain ⟨p, hp, rfl⟩ := List.mem_map.mp hd
    exact h p hp
  refine ⟨(rdF (fs.map (·.2))).2, (rdF (fs.map (·.2))).1.length, hw, row_len hw (by omega), ?_, hmem fun p hp => (hok p hp).1, hmem fun p hp => (hok p hp).2.1, hmem fun p hp => (hok p hp).2.2, ?_, fit_strOk hr, num_fl F (row_J _), ?_, fun q => ?_, fun ds' q => ?_, fun q => ?_, fun gd q => ?_, ?_, ?_, ?_, fun ds' b' q => ?_, rdF_le _, fun q => ?_, rdF_false _, rdF_iff _⟩
  · rw [e7]; exact row_len hw7 (by rw [List.length_map]; omega)
  · intro d hd
    obtain ⟨k, hk, rfl⟩ := List.mem_map.mp hd
    exact hok7 (sev, goodD k) (List.mem_map.mpr ⟨k, hk, rfl⟩)
  · rw [e7]; exact num_fl F7 (row_J _)
  · cases hfit _ q
  · have := hrow _ q
    split at this
    · rename_i h
      exact ⟨h, Option.some.inj this⟩
    · cases this
  · have := hrow _ q
    split at this
    · cases this
    · rename_i h
      exact Bool.eq_false_iff.mpr h
  · exact Option.some.inj (hfit _ q)
  · rw [hps, List.length_map]; omega
  · rw [hps]
    intro p hp
    obtain ⟨f, hf, rfl⟩ := List.mem_map.mp hp
    exact fl_all (P := fun W _ => (stripF W).length ≤ 1000) (fun _ _ _ _ _ g => g.plen) F f hf
  · rw [hps]; exact fl_at F
  · rw [hps] at q
    have := read_fl F _ _ q
    rw [← this]
    refine ⟨rfl, ?_⟩
    have e := rdF_take (fs.map (·.2))
    rw [← this] at e
    exact e
  · rw [rdF_true _ q, List.length_map, hf]
end Mine
end
section
namespace Mine
theorem kw_LT10_0 : True := by
  k_with_none
  w_top off
  k_with "KALL" => (first | exact List.forall_mem_nil _ | with_reducible assumption | (refine' List.forall_mem_cons.mpr ⟨?a, ?b⟩; (case a => k_ne); (case b => k_all)))
  k_with "KMEM" => (first | with_reducible assumption | (change (_ : Addr × Obj) ∈ (_ : List (Addr × Obj)); with_reducible assumption) | exact List.mem_append.mpr (.inl (by with_reducible assumption)) | (refine List.mem_append.mpr (.inr ?_); k_mem))
  k_with "exec Assign" => walk_at "FOLD"
  k_with "exec Return some" => walk_at "FOLD"
  k_with "exec If" => walk_at "FOLD"
  k_with "exec AugAssign" => walk_at "FOLD"
  k_with "exec Expr" => walk_at "FOLD"
  k_with "eval Tuple" => walk_at "FOLD"
  k_with "eval List" => walk_at "FOLD"
  k_with "eval BinOp" => walk_at "FOLD"
  k_with "eval Call" => walk_at "FOLD"
  k_with "eval Subscript" => walk_at "FOLD"
  k_with "eval IfExp" => walk_at "FOLD"
  k_with "isTrue BoolOp" => walk_at "FOLD"
  k_with "isTrue Compare" => walk_at "FOLD"
  k_with "eval Call Attribute" => walk_at "FOLD"
  k_with "FOLD" => ((fail_if_success (fail_if_success k_fold)); refine (let qk := _; let ek := _; (?_ : wpAny _ _ _ qk ek _)))
  k_with "execs cons" => (refine wp_tk s ?_; intro _)
  trivial
/-- a ledger's parts: entries and blocks -/
inductive Bks where
  | nil : Bks
  | e : Addr × Obj → Bks → Bks
  | l : Ledger → Bks → Bks
noncomputable def jnL : Bks → Ledger → Ledger
  | .nil, t => t
  | .e x r, t => x :: jnL r t
  | .l b r, t => b ++ jnL r t
noncomputable def nthB : Bks → Nat → Ledger
  | .nil, _ => []
  | .e x _, 0 => [x]
  | .l b _, 0 => b
  | .e _ r, n + 1 => nthB r n
  | .l _ r, n + 1 => nthB r n
noncomputable def dropB : Bks → Nat → Bks
  | r, 0 => r
  | .nil, _ + 1 => .nil
  | .e _ r, n + 1 => dropB r n
  | .l _ r, n + 1 => dropB r n
noncomputable def selB (bs : Bks) : List Nat → Ledger → Ledger
  | [], t => t
  | i :: is, t => nthB bs i ++ selB bs is t
theorem mem_nth {p : Addr × Obj} : ∀ (bs : Bks) (t : Ledger) (n : Nat), p ∈ nthB bs n → p ∈ jnL bs t
  | .nil, _, _, h => nomatch h
  | .e _ _, _, 0, h => List.mem_singleton.mp h ▸ .head _
  | .l _ _, _, 0, h => List.mem_append.mpr (.inl h)
  | .e _ r, t, n + 1, h => .tail _ (mem_nth r t n h)
  | .l _ r, t, n + 1, h => List.mem_append.mpr (.inr (mem_nth r t n h))
theorem mem_drop {p : Addr × Obj} : ∀ (bs : Bks) (t : Ledger) (n : Nat), p ∈ jnL (dropB bs n) t → p ∈ jnL bs t
  | .nil, _, 0, h => h
  | .e _ _, _, 0, h => h
  | .l _ _, _, 0, h => h
  | .nil, _, _ + 1, h => h
  | .e _ r, t, n + 1, h => .tail _ (mem_drop r t n h)
  | .l _ r, t, n + 1, h => List.mem_append.mpr (.inr (mem_drop r t n h))
theorem mem_last {p : Addr × Obj} (bs : Bks) {t : Ledger} (h : p ∈ t) : p ∈ jnL bs t := by
  induction bs with
  | nil => exact h
  | e _ _ ih => exact .tail _ ih
  | l _ _ ih => exact List.mem_append.mpr (.inr ih)
theorem prm (bs : Bks) (t : Ledger) (k : Nat) : ∀ (is : List Nat), ∀ p ∈ selB bs is (jnL (dropB bs k) t), p ∈ jnL bs t
  | [], _, h => mem_drop bs t k h
  | i :: is, p, h => by
    rcases List.mem_append.mp h with h | h
    · exact mem_nth bs t i h
    · exact prm bs t k is p h
/-- not a code object of the tables -/
noncomputable def NotC (o : Obj) : Prop := ∀ (vs : Array Value) qual t, o.data = .fields vs → vs[1]? ≠ some (.str qual t)
theorem tab_head (P : Addr) (pos : Pos) (ts : TabSt) : ∃ ps, (P, tabObj ps) ∈ tabL P pos ts ∧ NotC (tabObj ps) := by
  cases ts with
  | none =>
    refine ⟨_, .head _, fun vs qual t h q => ?_⟩
    cases h
    cases q
  | made c' oc =>
    refine ⟨_, .head _, fun vs qual t h q => ?_⟩
    cases h
    cases q
theorem tab_off {h₀ h : Heap} {L P a : Addr} {pos : Pos} {ts : TabSt} {qual : PySem.Str} {o : Obj} {news : Ledger} (N : News h₀ L h news) (hT : TabOk qual ts) (hs : ∀ p ∈ tabL P pos ts, p ∈ news) (ha : (a, o) ∈ news) (hn : NotC o) (hP : @Ne Nat P a) : ∀ p ∈ tabL P pos ts, p.1 ≠ a := by
  intro p hp e
  cases ts with
  | none => rw [List.mem_singleton.mp hp] at e; exact hP e
  | made c' oc =>
    rcases List.mem_cons.mp hp with rfl | hp
    · exact hP e
    · have hp' := List.mem_singleton.mp hp
      subst hp'
      have e' : c' = a := e
      subst e'
      have g1 := (N _ (hs _ (.tail _ (.head _)))).1
      have g2 := (N _ ha).1
      simp only at g1 g2
      rw [g1] at g2
      cases g2
      obtain ⟨vs, t, h1, h2⟩ := hT
      exact hn vs qual t h1 h2
theorem kp {m m' : PySem.Str → Option Value} {a b : PySem.Str} {v v' : Option Value} (hm : (fun y => if y = a then v' else m y) = m') (h : m b = v) (hne : b ≠ a) : m' b = v := by
  subst hm
  exact (if_neg hne).trans h
theorem kp_new {m m' : PySem.Str → Option Value} {a : PySem.Str} {v' : Option Value} (hm : (fun y => if y = a then v' else m y) = m') : m' a = v' := by
  subst hm
  exact if_pos rfl
theorem kp2 {m m' : PySem.Str → Option Value} {a a2 b : PySem.Str} {v v' v2 : Option Value} (hm : (fun y => if y = a then v' else if y = a2 then v2 else m y) = m') (h : m b = v) (hne : b ≠ a) (hne2 : b ≠ a2) : m' b = v := by
  subst hm
  exact (if_neg hne).trans ((if_neg hne2).trans h)
theorem kp2_a {m m' : PySem.Str → Option Value} {a a2 : PySem.Str} {v' v2 : Option Value} (hm : (fun y => if y = a then v' else if y = a2 then v2 else m y) = m') : m' a = v' := by
  subst hm
  exact if_pos rfl
theorem kp2_b {m m' : PySem.Str → Option Value} {a a2 : PySem.Str} {v' v2 : Option Value} (hm : (fun y => if y = a then v' else if y = a2 then v2 else m y) = m') (hne : a2 ≠ a) : m' a2 = v2 := by
  subst hm
  exact (if_neg hne).trans (if_pos rfl)
theorem off_mid {a : Addr} {g v f k c l : Addr × Obj} {t4 t2 t : Ledger} (hg : g.1 ≠ a) (h4 : ∀ p ∈ t4, p.1 ≠ a) (hv : v.1 ≠ a) (hf : f.1 ≠ a) (hc : c.1 ≠ a) (h2 : ∀ p ∈ t2, p.1 ≠ a) (hk : k.1 ≠ a) (hl : l.1 ≠ a) (ht : ∀ p ∈ t, p.1 ≠ a) : ∀ p ∈ g :: (t4 ++ v :: f :: c :: (t2 ++ k :: l :: t)), p.1 ≠ a :=
  List.forall_mem_cons.mpr ⟨hg, all_app h4 (List.forall_mem_cons.mpr ⟨hv, List.forall_mem_cons.mpr ⟨hf, List.forall_mem_cons.mpr ⟨hc, all_app h2 (List.forall_mem_cons.mpr ⟨hk, List.forall_mem_cons.mpr ⟨hl, ht⟩⟩)⟩⟩⟩)⟩

theorem law_turn (w : World) (st0 st1 st2 st3 st4 st5 st6 st7 st8 st9 st10 st11 : Stmt) (sc : Scope) (hsc : lawScope w.params = some sc) (h0 : turnSt w.params 0 = some st0) (h1 : turnSt w.params 1 = some st1) (h2 : turnSt w.params 2 = some st2) (h3 : turnSt w.params 3 = some st3) (h4 : turnSt w.params 4 = some st4) (h5 : turnSt w.params 5 = some st5) (h6 : turnSt w.params 6 = some st6) (h7 : turnSt w.params 7 = some st7) (h8 : turnSt w.params 8 = some st8) (h9 : turnSt w.params 9 = some st9) (h10 : turnSt w.params 10 = some st10) (h11 : turnSt w.params 11 = some st11)
   (L fa cr sl : Addr) (us : List Value) (zs : List Int) (kn n : Nat) (om oc : Obj) (c : Int) (tc : Tok) (t1 t2 : TabSt) (core : Ledger) (hzs : IntsAre us zs) (hls : us.length ≤ 63) (hslcr : sl ≠ cr) (vm : Option Value) (homd : om.data = .cell vm) (hocd : oc.data = .cell (some (.ref cr)))
   (hc : 0 ≤ c ∧ c ≤ 700) (hsl : (sl, listOf us.toArray kn) ∈ core) (hoc : (L + 1, oc) ∈ core) (kcr : ∀ p ∈ core, p.1 ≠ cr) (kom : ∀ p ∈ core, p.1 ≠ L + 1 + 1) (k243 : ∀ p ∈ core, p.1 ≠ 243) (k250 : ∀ p ∈ core, p.1 ≠ 250)
   (a1 : @Ne Nat cr (L + 1 + 1)) (a2 : @Ne Nat cr 243) (a3 : @Ne Nat cr 250) (a4 : @Ne Nat (L + 1 + 1) 243) (a5 : @Ne Nat (L + 1 + 1) 250) (hT1 : TabOk (qualL "_law_read") t1) (hT2 : TabOk (qualL "law") t2)
   {mean : ExcName → Option Value} {mg mb : PySem.Str → Option Value} {h₀ : Heap} {m : PySem.Str → Option Value} {s : Shared} {Q : Flow → Shared → Prop} {E : Value → Shared → Prop}
   (B : Below callerA h₀ [] h₀) (F : Fr h₀ L s.heap m) (X : (MineH.K w.params).In h₀) (N : News h₀ L s.heap ((cr, crO c tc sl n) :: (L + 1 + 1, om) :: (tabL 243 posR t1 ++ (tabL 250 posL t2 ++ core)))) (T : Top topProg topLs mean mg mb h₀) (C1 : CodeHd h₀ 247 243) (C2 : CodeHd h₀ 252 250)
   (hQ : ∀ (c' : Int) tc' om' vm' t1' t2' m' h' tk', 0 ≤ c' → c' ≤ c + 10 → om'.data = .cell vm' → TabOk (qualL "_law_read") t1' → TabOk (qualL "law") t2' → (t1' = t1 ∨ ∀ c oc, t1' = .made c oc → ∀ p ∈ core, p.1 < c) → (t2' = t2 ∨ ∀ c oc, t2' = .made c oc → ∀ p ∈ core, p.1 < c) → Fr h₀ L h' m' → News h₀ L h' ((cr, crO c' tc' sl n) :: (L + 1 + 1, om') :: (tabL 243 posR t1' ++ (tabL 250 posL t2' ++ core))) → Q .next { s with heap := h', toks := tk' }) :
   wpAny (model PySem.Challenge.rw_pf0007_01.row.prog w) (callerA.deeper (envOfC (Str.ofString "law") sc L fa (.ref 252))) (execs [st0, st1, st2, st3, st4, st5, st6, st7, st8, st9, st10, st11] (envOfC (Str.ofString "law") sc L fa (.ref 252))) Q E s := by
  obtain ⟨ps1, hp1, hn1⟩ := tab_head 243 posR t1
  obtain ⟨ps2, hp2, hn2⟩ := tab_head 250 posL t2
  have b1 : @Ne Nat 243 250 := by decide
  have hncr : ∀ c tc, NotC (crO c tc sl n) := fun c tc vs q t h => by cases h
  have hnom : ∀ {o : Obj} {v}, o.data = .cell v → NotC o := fun hd vs q t h => by rw [hd] at h; cases h
  have ot1 : ∀ (a : Addr) o, (a, o) ∈ (cr, crO c tc sl n) :: (L + 1 + 1, om) :: (tabL 243 posR t1 ++ (tabL 250 posL t2 ++ core)) → NotC o → @Ne Nat 243 a → ∀ p ∈ tabL 243 posR t1, p.1 ≠ a := fun a o h1 h2 h3 => tab_off N hT1 (fun p hp => .tail _ (.tail _ (List.mem_append.mpr (.inl hp)))) h1 h2 h3
  have ot2 : ∀ (a : Addr) o, (a, o) ∈ (cr, crO c tc sl n) :: (L + 1 + 1, om) :: (tabL 243 posR t1 ++ (tabL 250 posL t2 ++ core)) → NotC o → @Ne Nat 250 a → ∀ p ∈ tabL 250 posL t2, p.1 ≠ a := fun a o h1 h2 h3 => tab_off N hT2 (fun p hp => .tail _ (.tail _ (List.mem_append.mpr (.inr (List.mem_append.mpr (.inl hp)))))) h1 h2 h3
  have oR : ∀ (a : Addr) o, (a, o) ∈ (cr, crO c tc sl n) :: (L + 1 + 1, om) :: (tabL 243 posR t1 ++ (tabL 250 posL t2 ++ core)) → NotC o → @Ne Nat 243 a → @Ne Nat 250 a → (∀ p ∈ core, p.1 ≠ a) → ∀ p ∈ (tabL 243 posR t1 ++ (tabL 250 posL t2 ++ core)), p.1 ≠ a := fun a o h1 h2 h3 h4 h5 => all_app (ot1 a o h1 h2 h3) (all_app (ot2 a o h1 h2 h4) h5)
  have hslR : (sl, listOf us.toArray kn) ∈ (tabL 243 posR t1 ++ (tabL 250 posL t2 ++ core)) := List.mem_append.mpr (.inr (List.mem_append.mpr (.inr hsl)))
  have hocR : (L + 1, oc) ∈ (tabL 243 posR t1 ++ (tabL 250 posL t2 ++ core)) := List.mem_append.mpr (.inr (List.mem_append.mpr (.inr hoc)))
  have m243 : (243, tabObj ps1) ∈ (tabL 243 posR t1 ++ (tabL 250 posL t2 ++ core)) := List.mem_append.mpr (.inl hp1)
  have m250 : (250, tabObj ps2) ∈ (tabL 243 posR t1 ++ (tabL 250 posL t2 ++ core)) := List.mem_append.mpr (.inr (List.mem_append.mpr (.inl hp2)))
  have oRcr := oR cr _ (.head _) (hncr _ _) a2.symm a3.symm kcr
  have oRom := oR (L + 1 + 1) _ (.tail _ (.head _)) (hnom homd) a4.symm a5.symm kom
  refine wpAny_execs_cons ?_
  refine s0 w st0 sc h0 hsc L fa cr sl us zs kn n om oc c tc (tabL 243 posR t1 ++ (tabL 250 posL t2 ++ core)) hzs hls hslcr vm homd hocd ⟨hc.1, by omega⟩ hslR hocR oRcr oRom a1 B F X N T ?_
  intro r0 tm x d es n1 ol il dl rt st' tc1 om1 r0a r0b W hom1 ord dx xo oi id h1' tk1 F1 N1
  obtain ⟨r, rfl⟩ : ∃ r : Nat, r0 = (r : Int) := ⟨r0.toNat, by omega⟩
  have hr3 : r < 3 := by omega
  generalize hm1 : (fun y => if y = Str.ofString "world" then some (Value.ref x) else m y) = m1 at F1
  have g_w := kp_new hm1
  dsimp only
  have dx' : @LT.lt Nat _ d x := dx
  have xo' : @LT.lt Nat _ x ol := xo
  have oi' : @LT.lt Nat _ ol il := oi
  have id' : @LT.lt Nat _ il dl := id
  have crd : @LT.lt Nat _ cr d := ord _ (.head _)
  have omd : @LT.lt Nat _ (L + 1 + 1) d := ord _ (.tail _ (.head _))
  have Rd : ∀ p ∈ (tabL 243 posR t1 ++ (tabL 250 posL t2 ++ core)), @LT.lt Nat _ p.1 d := fun p hp => ord p (.tail _ (.tail _ hp))
  refine wpAny_execs_cons ?_
  have hcr1 : ∀ p ∈ ((x, instObj 216 d) :: (d, dictOf es n1) :: (ol, listOf [].toArray 0) :: (il, listOf [].toArray 0) :: (dl, listOf [].toArray 0) :: (L + 1 + 1, om1) :: (tabL 243 posR t1 ++ (tabL 250 posL t2 ++ core))), p.1 ≠ cr := List.forall_mem_cons.mpr ⟨neN (by omega), List.forall_mem_cons.mpr ⟨neN (by omega), List.forall_mem_cons.mpr ⟨neN (by omega), List.forall_mem_cons.mpr ⟨neN (by omega), List.forall_mem_cons.mpr ⟨neN (by omega), List.forall_mem_cons.mpr ⟨neN a1.symm, oRcr⟩⟩⟩⟩⟩⟩
  have i1 : ∀ p ∈ (tabL 243 posR t1 ++ (tabL 250 posL t2 ++ core)), p ∈ ((x, instObj 216 d) :: (d, dictOf es n1) :: (ol, listOf [].toArray 0) :: (il, listOf [].toArray 0) :: (dl, listOf [].toArray 0) :: (L + 1 + 1, om1) :: (tabL 243 posR t1 ++ (tabL 250 posL t2 ++ core))) := fun p hp => .tail _ (.tail _ (.tail _ (.tail _ (.tail _ (.tail _ hp)))))
  refine s1 w st1 sc h1 hsc L fa cr sl us zs kn n om1 oc (c + 1) tc1 ((x, instObj 216 d) :: (d, dictOf es n1) :: (ol, listOf [].toArray 0) :: (il, listOf [].toArray 0) :: (dl, listOf [].toArray 0) :: (L + 1 + 1, om1) :: (tabL 243 posR t1 ++ (tabL 250 posL t2 ++ core))) hzs hls hslcr r tm hr3 hom1 hocd ⟨by omega, by omega⟩ (i1 _ hslR) (i1 _ hocR) (.tail _ (.tail _ (.tail _ (.tail _ (.tail _ (.head _)))))) hcr1 B F1 X (cb_drop N1 (by exact prm (.e _ (.e _ (.e _ (.e _ (.e _ (.e _ .nil)))))) _ 6 [5, 0, 1, 2, 3, 4])) T ?_
  intro kl ys ks tc2 hkn hkd hkD hklne h2' tk2 F2 N2
  generalize hm2 : (fun y => if y = Str.ofString "kinds" then some (Value.ref kl) else m1 y) = m2 at F2
  replace g_w := kp hm2 g_w (by decide +kernel)
  have g_k := kp_new hm2
  dsimp only
  refine wpAny_execs_cons ?_
  refine s2 w st2 sc h2 hsc L fa cr sl us zs kn n om1 oc (c + 1 + (r : Int) + 1) tc2 ((kl, listOf ys.toArray ys.length) :: ((x, instObj 216 d) :: (d, dictOf es n1) :: (ol, listOf [].toArray 0) :: (il, listOf [].toArray 0) :: (dl, listOf [].toArray 0) :: (L + 1 + 1, om1) :: (tabL 243 posR t1 ++ (tabL 250 posL t2 ++ core)))) hzs hls hslcr r tm hr3 hom1 hocd kl ys ks hkn hkD (.head _) ⟨by omega, by omega⟩ (.tail _ (i1 _ hslR)) (.tail _ (i1 _ hocR)) (.tail _ (.tail _ (.tail _ (.tail _ (.tail _ (.tail _ (.head _))))))) (List.forall_mem_cons.mpr ⟨fun e => hklne _ (.head _) e.symm, hcr1⟩) ⟨g_k, trivial⟩ B F2 X (cb_drop N2 (by exact prm (.e _ (.e _ .nil)) _ 2 [1, 0])) T ?_
  intro fl fys fs tl tc3 hfn hFld hfD ordtl hflne h3' tk3 F3 N3
  generalize hm3 : (fun y => if y = Str.ofString "fields" then some (Value.ref fl) else m2 y) = m3 at F3
  replace g_w := kp hm3 g_w (by decide +kernel)
  replace g_k := kp hm3 g_k (by decide +kernel)
  have g_f := kp_new hm3
  dsimp only
  obtain ⟨b, fi, PL⟩ := plain_law r ks fs hr3 hkn hkd hfn hFld
  generalize hcc : c + 1 + (r : Int) + 1 + 2 * (r : Int) + 2 = cc at N3
  refine wpAny_execs_cons ?_
  refine s3 w st3 sc h3 hsc L fa ((fl, listOf fys.toArray fys.length) :: (cr, crO cc tc3 sl n) :: (tl ++ ((kl, listOf ys.toArray ys.length) :: ((x, instObj 216 d) :: (d, dictOf es n1) :: (ol, listOf [].toArray 0) :: (il, listOf [].toArray 0) :: (dl, listOf [].toArray 0) :: (L + 1 + 1, om1) :: (tabL 243 posR t1 ++ (tabL 250 posL t2 ++ core)))))) fl fys fys.length fs tl (fun p hp => .tail _ (.tail _ (List.mem_append.mpr (.inl hp)))) hfD (.head _) (by omega) PL.wlen ⟨g_f, trivial⟩ B F3 X N3 T ?_
  intro vl vs tr hvD hvlne h4' tk4 F4 N4
  generalize hm4 : (fun y => if y = Str.ofString "row" then some (Value.str (Txt.join (Str.ofString ",") (fs.map (·.1))) tr) else if y = Str.ofString "values" then some (Value.ref vl) else m3 y) = m4 at F4
  replace g_w := kp2 hm4 g_w (by decide +kernel) (by decide +kernel)
  replace g_k := kp2 hm4 g_k (by decide +kernel) (by decide +kernel)
  have g_r := kp2_a hm4
  have g_v := kp2_b hm4 (by decide +kernel)
  dsimp only
  refine wpAny_execs_cons ?_
  refine s4 w st4 sc h4 hsc L fa om1 ((vl, listOf vs.toArray vs.length) :: ((fl, listOf fys.toArray fys.length) :: (cr, crO cc tc3 sl n) :: (tl ++ ((kl, listOf ys.toArray ys.length) :: ((x, instObj 216 d) :: (d, dictOf es n1) :: (ol, listOf [].toArray 0) :: (il, listOf [].toArray 0) :: (dl, listOf [].toArray 0) :: (L + 1 + 1, om1) :: (tabL 243 posR t1 ++ (tabL 250 posL t2 ++ core))))))) r tm hr3 hom1 (by exact mem_nth (.e _ (.e _ (.e _ (.l _ (.e _ (.e _ (.e _ (.e _ (.e _ (.e _ (.e _ .nil))))))))))) _ 10 (.head _)) kl ys ks hkn hkD (by exact mem_nth (.e _ (.e _ (.e _ (.l _ (.e _ .nil))))) _ 4 (.head _)) ⟨g_k, trivial⟩ B F4 X N4 T ?_
  intro gl gs tl4 tf hgD ord4 hglne h5' tk5 F5 N5
  generalize hm5 : (fun y => if y = Str.ofString "fit" then some (Value.str (Txt.join (Str.ofString ",") (List.replicate (r + 1) (Str.ofString "7"))) tf) else if y = Str.ofString "good" then some (Value.ref gl) else m4 y) = m5 at F5
  replace g_w := kp2 hm5 g_w (by decide +kernel) (by decide +kernel)
  replace g_k := kp2 hm5 g_k (by decide +kernel) (by decide +kernel)
  replace g_r := kp2 hm5 g_r (by decide +kernel) (by decide +kernel)
  replace g_v := kp2 hm5 g_v (by decide +kernel) (by decide +kernel)
  have g_t := kp2_a hm5
  have g_g := kp2_b hm5 (by decide +kernel)
  dsimp only
  have mo : ∀ (a : Addr) (o : Obj), (a, o) ∈ ((x, instObj 216 d) :: (d, dictOf es n1) :: (ol, listOf [].toArray 0) :: (il, listOf [].toArray 0) :: (dl, listOf [].toArray 0) :: (L + 1 + 1, om1) :: (tabL 243 posR t1 ++ (tabL 250 posL t2 ++ core))) → @Ne Nat cr a → @Ne Nat (L + 1 + 1) a → ∀ t : Ledger, (∀ p ∈ t, p.1 ≠ a) → ∀ p ∈ (gl, listOf gs.toArray gs.length) :: (tl4 ++ (vl, listOf vs.toArray vs.length) :: (fl, listOf fys.toArray fys.length) :: (cr, crO cc tc3 sl n) :: (tl ++ (kl, listOf ys.toArray ys.length) :: (L + 1 + 1, om1) :: (t))), p.1 ≠ a := fun a o h e1 e2 t ht =>
    off_mid (fun e => hglne (a, o) (List.mem_append.mpr (.inr (.tail _ (.tail _ (.tail _ (List.mem_append.mpr (.inr (.tail _ h)))))))) e.symm) (fun p hp => Nat.ne_of_gt (ord4 (a, o) (.tail _ (.tail _ (.tail _ (List.mem_append.mpr (.inr (.tail _ h)))))) p hp)) (fun e => hvlne (a, o) (.tail _ (.tail _ (List.mem_append.mpr (.inr (.tail _ h))))) e.symm) (fun e => hflne (a, o) (.tail _ (List.mem_append.mpr (.inr (.tail _ h)))) e.symm) e1 (fun p hp => Nat.ne_of_gt (ordtl (a, o) (.tail _ (.tail _ h)) p hp)) (fun e => hklne (a, o) (.tail _ h) e.symm) e2 ht
  have mx : (x, instObj 216 d) ∈ ((x, instObj 216 d) :: (d, dictOf es n1) :: (ol, listOf [].toArray 0) :: (il, listOf [].toArray 0) :: (dl, listOf [].toArray 0) :: (L + 1 + 1, om1) :: (tabL 243 posR t1 ++ (tabL 250 posL t2 ++ core))) := .head _
  have md : (d, dictOf es n1) ∈ ((x, instObj 216 d) :: (d, dictOf es n1) :: (ol, listOf [].toArray 0) :: (il, listOf [].toArray 0) :: (dl, listOf [].toArray 0) :: (L + 1 + 1, om1) :: (tabL 243 posR t1 ++ (tabL 250 posL t2 ++ core))) := .tail _ (.head _)
  have mol : (ol, listOf [].toArray 0) ∈ ((x, instObj 216 d) :: (d, dictOf es n1) :: (ol, listOf [].toArray 0) :: (il, listOf [].toArray 0) :: (dl, listOf [].toArray 0) :: (L + 1 + 1, om1) :: (tabL 243 posR t1 ++ (tabL 250 posL t2 ++ core))) := .tail _ (.tail _ (.head _))
  have c1 : ∀ (a : Nat), @LE.le Nat _ d a → ∀ p ∈ tabL 243 posR t1 ++ core, p.1 ≠ a := fun a ha => all_app (fun p hp => Nat.ne_of_lt (Nat.lt_of_lt_of_le (Rd p (List.mem_append.mpr (.inl hp))) ha)) (fun p hp => Nat.ne_of_lt (Nat.lt_of_lt_of_le (Rd p (List.mem_append.mpr (.inr (List.mem_append.mpr (.inr hp))))) ha))
  have c2 : ∀ (a : Nat), @LE.le Nat _ d a → ∀ p ∈ tabL 250 posL t2, p.1 ≠ a := fun a ha p hp => Nat.ne_of_lt (Nat.lt_of_lt_of_le (Rd p (List.mem_append.mpr (.inr (List.mem_append.mpr (.inl hp))))) ha)
  have x6 := mo x _ mx (by omega) (by omega) (tabL 243 posR t1 ++ core) (c1 x (by omega))
  have d6 := mo d _ md (by omega) (by omega) (tabL 243 posR t1 ++ core) (c1 d (by omega))
  have ol6 := mo ol _ mol (by omega) (by omega) (tabL 243 posR t1 ++ core) (c1 ol (by omega))
  have p6 := mo 250 _ (i1 _ m250) a3 a5 (tabL 243 posR t1 ++ core) (all_app (ot1 250 _ (.tail _ (.tail _ m250)) hn2 b1) k250)
  refine wpAny_execs_cons ?_
  generalize hrow : Txt.join (Str.ofString ",") (fs.map (·.1)) = row at g_r
  generalize hfit : Txt.join (Str.ofString ",") (List.replicate (r + 1) (Str.ofString "7")) = fit at g_t
  refine s5 w st5 sc h5 hsc L fa ((ol, listOf [].toArray 0) :: (tabL 250 posL t2 ++ ((gl, listOf gs.toArray gs.length) :: (tl4 ++ (vl, listOf vs.toArray vs.length) :: (fl, listOf fys.toArray fys.length) :: (cr, crO cc tc3 sl n) :: (tl ++ (kl, listOf ys.toArray ys.length) :: (L + 1 + 1, om1) :: (tabL 243 posR t1 ++ core)))))) x d es n1 il ol dl rt st' row fit tr tf vl vs vs.length (fs.map (·.2)) b W (List.forall_mem_cons.mpr ⟨neN (by omega), all_app (c2 x (by omega)) x6⟩) (List.forall_mem_cons.mpr ⟨neN (by omega), all_app (c2 d (by omega)) d6⟩) dx (by exact mem_nth (.e _ (.l _ (.e _ (.l _ (.e _ .nil))))) _ 4 (.head _)) (hvD.mono fun p hp => by exact mem_nth (.e _ (.l _ (.e _ (.l _ (.e _ (.e _ (.e _ (.l _ .nil)))))))) _ 7 hp) PL.ok8 PL.fn ⟨g_r, g_t, g_v, g_w, trivial⟩ B F5 X (cb_drop N5 (by exact prm (.e _ (.l _ (.e _ (.e _ (.e _ (.l _ (.e _ (.e _ (.e _ (.e _ (.e _ (.e _ (.e _ (.l _ (.l _ .nil))))))))))))))) _ 15 [7, 8, 9, 14, 0, 1, 2, 3, 4, 5, 6, 12, 13])) T ?_

  intro il1 es5 n5 t5 W5 ordil h6' tk6 F6 N6
  generalize hm6 : (fun y => if y = Str.ofString "is_right" then some (Value.bool b) else m5 y) = m6 at F6
  replace g_w := kp hm6 g_w (by decide +kernel)
  replace g_k := kp hm6 g_k (by decide +kernel)
  replace g_r := kp hm6 g_r (by decide +kernel)
  replace g_v := kp hm6 g_v (by decide +kernel)
  replace g_t := kp hm6 g_t (by decide +kernel)
  replace g_g := kp hm6 g_g (by decide +kernel)
  have g_b := kp_new hm6
  dsimp only
  have olil : @LT.lt Nat _ ol il1 := ordil (ol, listOf [].toArray 0) (.tail _ (.tail _ (.head _)))
  have xil : @LT.lt Nat _ x il1 := ordil _ (.head _)
  have dil : @LT.lt Nat _ d il1 := ordil (d, _) (.tail _ (.head _))
  have r6il : ∀ p ∈ ((gl, listOf gs.toArray gs.length) :: (tl4 ++ (vl, listOf vs.toArray vs.length) :: (fl, listOf fys.toArray fys.length) :: (cr, crO cc tc3 sl n) :: (tl ++ (kl, listOf ys.toArray ys.length) :: (L + 1 + 1, om1) :: (tabL 243 posR t1 ++ core)))), @LT.lt Nat _ p.1 il1 := fun p hp => ordil p (.tail _ (.tail _ (.tail _ (List.mem_append.mpr (.inr hp)))))
  have t2il : ∀ p ∈ tabL 250 posL t2, @LT.lt Nat _ p.1 il1 := fun p hp => ordil p (.tail _ (.tail _ (.tail _ (List.mem_append.mpr (.inl hp)))))
  have hkr6 : (kl, listOf ys.toArray ys.length) ∈ ((gl, listOf gs.toArray gs.length) :: (tl4 ++ (vl, listOf vs.toArray vs.length) :: (fl, listOf fys.toArray fys.length) :: (cr, crO cc tc3 sl n) :: (tl ++ (kl, listOf ys.toArray ys.length) :: (L + 1 + 1, om1) :: (tabL 243 posR t1 ++ core)))) := by exact mem_nth (.e _ (.l _ (.e _ (.e _ (.e _ (.l _ (.e _ .nil))))))) _ 6 (.head _)
  refine wpAny_execs_cons ?_
  refine s6 w st6 sc h6 hsc L fa ((gl, listOf gs.toArray gs.length) :: (tl4 ++ (vl, listOf vs.toArray vs.length) :: (fl, listOf fys.toArray fys.length) :: (cr, crO cc tc3 sl n) :: (tl ++ (kl, listOf ys.toArray ys.length) :: (L + 1 + 1, om1) :: (tabL 243 posR t1 ++ core)))) x d es5 n5 il1 ol dl 0 0 rt st' row fit tr tf t5 kl ys ys.length ks t2 b (fs.map (·.2)) W5 x6 d6 ol6 (fun p hp => Nat.ne_of_lt (r6il p hp)) dx xo olil (hrow ▸ PL.rowl) (hfit ▸ PL.fitl) hkr6 (hkD _) (by omega) (hrow ▸ PL.n1) (hfit ▸ PL.n2) (hfit ▸ PL.no) (hrow ▸ PL.f1) (hrow ▸ PL.f2) (hfit ▸ PL.f3) (fun p hp => Rd p (List.mem_append.mpr (.inr (List.mem_append.mpr (.inl hp))))) p6 hT2 ⟨g_w, g_k, trivial⟩ B F6 X (cb_drop N6 (by exact prm (.e _ (.e _ (.e _ (.e _ .nil)))) _ 4 [0, 1, 3, 2])) T C2 ?_
  intro hl hvs ovs ivs hn ko' ki' tl6 es6 n6 t6 t2' W6 hT2' htd6 htc6 ord6 hhD hoD hiD h7' tk7 F7 N7
  generalize hm7 : (fun y => if y = Str.ofString "heard" then some (Value.ref hl) else m6 y) = m7 at F7
  replace g_w := kp hm7 g_w (by decide +kernel)
  replace g_k := kp hm7 g_k (by decide +kernel)
  replace g_r := kp hm7 g_r (by decide +kernel)
  replace g_v := kp hm7 g_v (by decide +kernel)
  replace g_t := kp hm7 g_t (by decide +kernel)
  replace g_g := kp hm7 g_g (by decide +kernel)
  replace g_b := kp hm7 g_b (by decide +kernel)
  have g_h := kp_new hm7
  dsimp only
  refine wpAny_execs_cons ?_
  refine s7 w st7 sc h7 hsc L fa ((hl, listOf hvs.toArray hn) :: (tl6 ++ (ol, listOf ovs.toArray ko') :: (il1, listOf ivs.toArray ki') :: (tabL 250 posL t2' ++ ((gl, listOf gs.toArray gs.length) :: (tl4 ++ (vl, listOf vs.toArray vs.length) :: (fl, listOf fys.toArray fys.length) :: (cr, crO cc tc3 sl n) :: (tl ++ (kl, listOf ys.toArray ys.length) :: (L + 1 + 1, om1) :: (tabL 243 posR t1 ++ core))))))) x d es6 n6 il1 ol dl (Str.ofString "") t6 st' fit tf hl vl gl hvs vs gs ivs hn vs.length gs.length ki' (fs.map (·.2)) (ks.map goodD) b W6 (.head _) (by exact mem_nth (.e _ (.l _ (.e _ (.e _ (.l _ (.e _ (.l _ (.e _ .nil)))))))) _ 7 (.head _)) (by exact mem_nth (.e _ (.l _ (.e _ (.e _ (.l _ (.e _ .nil)))))) _ 5 (.head _)) (by exact mem_nth (.e _ (.l _ (.e _ (.e _ .nil)))) _ 3 (.head _)) (hhD.mono fun p hp => by rcases List.mem_cons.mp hp with rfl | hp; exact .head _; exact .tail _ (.tail _ (List.mem_append.mpr (.inl hp)))) (hvD.mono fun p hp => by exact mem_nth (.e _ (.l _ (.e _ (.e _ (.l _ (.e _ (.l _ (.e _ (.e _ (.e _ (.l _ .nil))))))))))) _ 10 hp) (hgD.mono fun p hp => by exact mem_nth (.e _ (.l _ (.e _ (.e _ (.l _ (.e _ (.l _ .nil))))))) _ 6 hp) hiD PL.ok7 PL.okg (hfit ▸ PL.okf) ⟨g_h, g_v, g_g, g_b, g_w, g_t, trivial⟩ B F7 X (cb_drop N7 (by exact prm (.e _ (.l _ (.e _ (.e _ .nil)))) _ 4 [2, 3, 0, 1])) T ?_
  intro h8' tk8 F8 N8
  dsimp only
  refine wpAny_execs_cons ?_
  refine s8 w st8 sc h8 hsc L fa ((hl, listOf hvs.toArray hn) :: (tl6 ++ (ol, listOf ovs.toArray ko') :: (il1, listOf ivs.toArray ki') :: (tabL 250 posL t2' ++ ((gl, listOf gs.toArray gs.length) :: (tl4 ++ (vl, listOf vs.toArray vs.length) :: (fl, listOf fys.toArray fys.length) :: (cr, crO cc tc3 sl n) :: (tl ++ (kl, listOf ys.toArray ys.length) :: (L + 1 + 1, om1) :: (tabL 243 posR t1 ++ core))))))) x d es6 n6 il1 ol dl (Str.ofString "") t6 st' ovs ko' b W6 (by exact mem_nth (.e _ (.l _ (.e _ .nil))) _ 2 (.head _)) hoD ⟨g_b, g_w, trivial⟩ B F8 X N8 T ?_
  intro h9' tk9 F9 N9
  dsimp only
  have o7 : ∀ (a : Nat) o, (a, o) ∈ (x, instObj 216 d) :: (d, dictOf es5 n5) :: (ol, listOf [].toArray 0) :: (il1, listOf [Value.str row tr, .str fit tf, .str (Str.ofString "left") t5].toArray 0) :: (tabL 250 posL t2' ++ ((gl, listOf gs.toArray gs.length) :: (tl4 ++ (vl, listOf vs.toArray vs.length) :: (fl, listOf fys.toArray fys.length) :: (cr, crO cc tc3 sl n) :: (tl ++ (kl, listOf ys.toArray ys.length) :: (L + 1 + 1, om1) :: (tabL 243 posR t1 ++ core))))) → ∀ p ∈ (hl, listOf hvs.toArray hn) :: tl6, p.1 ≠ a := fun a o h p hp => Nat.ne_of_gt (ord6 (a, o) h p hp)
  have td : ∀ (a : Nat), @LE.le Nat _ d a → @LT.lt Nat _ a il1 → ∀ p ∈ tabL 250 posL t2', p.1 ≠ a := fun a h1 h2 p hp e => by
    have e' : @Eq Nat p.1 a := e
    rcases htd6 p hp with h | h
    · have h3 : @LT.lt Nat _ p.1 d := h
      omega
    · have h3 : @LT.lt Nat _ il1 p.1 := h
      omega
  have x7 : ∀ p ∈ ((hl, listOf hvs.toArray hn) :: (tl6 ++ (ol, listOf ovs.toArray ko') :: (il1, listOf ivs.toArray ki') :: (tabL 250 posL t2' ++ ((gl, listOf gs.toArray gs.length) :: (tl4 ++ (vl, listOf vs.toArray vs.length) :: (fl, listOf fys.toArray fys.length) :: (cr, crO cc tc3 sl n) :: (tl ++ (kl, listOf ys.toArray ys.length) :: (L + 1 + 1, om1) :: (tabL 243 posR t1 ++ core))))))), p.1 ≠ x := List.forall_mem_cons.mpr ⟨o7 x _ (.head _) _ (.head _), all_app (fun p hp => o7 x _ (.head _) p (.tail _ hp)) (List.forall_mem_cons.mpr ⟨neN (by omega), List.forall_mem_cons.mpr ⟨neN (by omega), all_app (td x (by omega) xil) x6⟩⟩)⟩
  have d7 : ∀ p ∈ ((hl, listOf hvs.toArray hn) :: (tl6 ++ (ol, listOf ovs.toArray ko') :: (il1, listOf ivs.toArray ki') :: (tabL 250 posL t2' ++ ((gl, listOf gs.toArray gs.length) :: (tl4 ++ (vl, listOf vs.toArray vs.length) :: (fl, listOf fys.toArray fys.length) :: (cr, crO cc tc3 sl n) :: (tl ++ (kl, listOf ys.toArray ys.length) :: (L + 1 + 1, om1) :: (tabL 243 posR t1 ++ core))))))), p.1 ≠ d := List.forall_mem_cons.mpr ⟨o7 d _ (.tail _ (.head _)) _ (.head _), all_app (fun p hp => o7 d _ (.tail _ (.head _)) p (.tail _ hp)) (List.forall_mem_cons.mpr ⟨neN (by omega), List.forall_mem_cons.mpr ⟨neN (by omega), all_app (td d (by omega) dil) d6⟩⟩)⟩
  refine wpAny_execs_cons ?_
  refine s9 w st9 sc h9 hsc L fa ((hl, listOf hvs.toArray hn) :: (tl6 ++ (ol, listOf ovs.toArray ko') :: (il1, listOf ivs.toArray ki') :: (tabL 250 posL t2' ++ ((gl, listOf gs.toArray gs.length) :: (tl4 ++ (vl, listOf vs.toArray vs.length) :: (fl, listOf fys.toArray fys.length) :: (cr, crO cc tc3 sl n) :: (tl ++ (kl, listOf ys.toArray ys.length) :: (L + 1 + 1, om1) :: (tabL 243 posR t1 ++ core))))))) x d es6 n6 il1 ol dl (Str.ofString "") t6 st' row tr W6 x7 d7 dx (hrow ▸ PL.rowl) (by rw [← hrow, PL.psn]; omega) ⟨g_r, g_w, trivial⟩ B F9 X N9 T ?_
  intro dl9 dvs dn tl9 es9 n9 W9 hdD ord9 hdlne h10' tk10 F10 N10
  dsimp only
  refine wpAny_execs_cons ?_
  refine s10 w st10 sc h10 hsc L fa om1 ((x, instObj 216 d) :: (d, dictOf es9 n9) :: (dl9, listOf dvs.toArray dn) :: (tl9 ++ ((hl, listOf hvs.toArray hn) :: (tl6 ++ (ol, listOf ovs.toArray ko') :: (il1, listOf ivs.toArray ki') :: (tabL 250 posL t2' ++ ((gl, listOf gs.toArray gs.length) :: (tl4 ++ (vl, listOf vs.toArray vs.length) :: (fl, listOf fys.toArray fys.length) :: (cr, crO cc tc3 sl n) :: (tl ++ (kl, listOf ys.toArray ys.length) :: (L + 1 + 1, om1) :: (tabL 243 posR t1 ++ core))))))))) r tm hom1 (by exact mem_nth (.e _ (.e _ (.e _ (.l _ (.e _ (.l _ (.e _ (.e _ (.l _ (.e _ (.l _ (.e _ (.e _ (.e _ (.l _ (.e _ (.e _ .nil))))))))))))))))) _ 16 (.head _)) vl vs vs.length (fs.map (·.2)) b fi (by exact mem_nth (.e _ (.e _ (.e _ (.l _ (.e _ (.l _ (.e _ (.e _ (.l _ (.e _ (.l _ (.e _ .nil)))))))))))) _ 11 (.head _)) (hvD.mono fun p hp => by exact mem_nth (.e _ (.e _ (.e _ (.l _ (.e _ (.l _ (.e _ (.e _ (.l _ (.e _ (.l _ (.e _ (.e _ (.e _ (.l _ .nil))))))))))))))) _ 14 hp) PL.ok8 (by rw [List.length_map]; omega) PL.ft PL.ff ⟨g_b, g_v, trivial⟩ B F10 X N10 T ?_
  intro tfi h11' tk11 F11 N11
  generalize hm8 : (fun y => if y = Str.ofString "first" then some (Value.int (fi : Int) tfi) else m7 y) = m8 at F11
  replace g_w := kp hm8 g_w (by decide +kernel)
  replace g_k := kp hm8 g_k (by decide +kernel)
  replace g_v := kp hm8 g_v (by decide +kernel)
  replace g_b := kp hm8 g_b (by decide +kernel)
  have g_1 := kp_new hm8
  dsimp only
  have cd : ∀ (a : Nat), @LE.le Nat _ d a → ∀ p ∈ core, p.1 ≠ a := fun a ha p hp => c1 a ha p (List.mem_append.mpr (.inr hp))
  have d243 : @LT.lt Nat _ 243 d := Rd _ m243
  have m243' : (243, tabObj ps1) ∈ ((gl, listOf gs.toArray gs.length) :: (tl4 ++ (vl, listOf vs.toArray vs.length) :: (fl, listOf fys.toArray fys.length) :: (cr, crO cc tc3 sl n) :: (tl ++ (kl, listOf ys.toArray ys.length) :: (L + 1 + 1, om1) :: (tabL 243 posR t1 ++ core)))) := by exact mem_nth (.e _ (.l _ (.e _ (.e _ (.e _ (.l _ (.e _ (.e _ (.l _ .nil))))))))) _ 8 hp1
  have m6' : ∀ p ∈ ((gl, listOf gs.toArray gs.length) :: (tl4 ++ (vl, listOf vs.toArray vs.length) :: (fl, listOf fys.toArray fys.length) :: (cr, crO cc tc3 sl n) :: (tl ++ (kl, listOf ys.toArray ys.length) :: (L + 1 + 1, om1) :: (tabL 243 posR t1 ++ core)))), p ∈ (x, instObj 216 d) :: (d, dictOf es5 n5) :: (ol, listOf [].toArray 0) :: (il1, listOf [Value.str row tr, .str fit tf, .str (Str.ofString "left") t5].toArray 0) :: (tabL 250 posL t2' ++ ((gl, listOf gs.toArray gs.length) :: (tl4 ++ (vl, listOf vs.toArray vs.length) :: (fl, listOf fys.toArray fys.length) :: (cr, crO cc tc3 sl n) :: (tl ++ (kl, listOf ys.toArray ys.length) :: (L + 1 + 1, om1) :: (tabL 243 posR t1 ++ core))))) := fun p hp => .tail _ (.tail _ (.tail _ (.tail _ (List.mem_append.mpr (.inr hp)))))
  have m7' : ∀ p ∈ ((hl, listOf hvs.toArray hn) :: (tl6 ++ (ol, listOf ovs.toArray ko') :: (il1, listOf ivs.toArray ki') :: (tabL 250 posL t2' ++ ((gl, listOf gs.toArray gs.length) :: (tl4 ++ (vl, listOf vs.toArray vs.length) :: (fl, listOf fys.toArray fys.length) :: (cr, crO cc tc3 sl n) :: (tl ++ (kl, listOf ys.toArray ys.length) :: (L + 1 + 1, om1) :: (tabL 243 posR t1 ++ core))))))), p ∈ (x, instObj 216 d) :: (d, dictOf es6 n6) :: ((hl, listOf hvs.toArray hn) :: (tl6 ++ (ol, listOf ovs.toArray ko') :: (il1, listOf ivs.toArray ki') :: (tabL 250 posL t2' ++ ((gl, listOf gs.toArray gs.length) :: (tl4 ++ (vl, listOf vs.toArray vs.length) :: (fl, listOf fys.toArray fys.length) :: (cr, crO cc tc3 sl n) :: (tl ++ (kl, listOf ys.toArray ys.length) :: (L + 1 + 1, om1) :: (tabL 243 posR t1 ++ core))))))) := fun p hp => .tail _ (.tail _ hp)
  have o11 : ∀ (a : Nat) o o9, (a, o) ∈ (x, instObj 216 d) :: (d, dictOf es5 n5) :: (ol, listOf [].toArray 0) :: (il1, listOf [Value.str row tr, .str fit tf, .str (Str.ofString "left") t5].toArray 0) :: (tabL 250 posL t2' ++ ((gl, listOf gs.toArray gs.length) :: (tl4 ++ (vl, listOf vs.toArray vs.length) :: (fl, listOf fys.toArray fys.length) :: (cr, crO cc tc3 sl n) :: (tl ++ (kl, listOf ys.toArray ys.length) :: (L + 1 + 1, om1) :: (tabL 243 posR t1 ++ core))))) → (a, o9) ∈ (x, instObj 216 d) :: (d, dictOf es6 n6) :: ((hl, listOf hvs.toArray hn) :: (tl6 ++ (ol, listOf ovs.toArray ko') :: (il1, listOf ivs.toArray ki') :: (tabL 250 posL t2' ++ ((gl, listOf gs.toArray gs.length) :: (tl4 ++ (vl, listOf vs.toArray vs.length) :: (fl, listOf fys.toArray fys.length) :: (cr, crO cc tc3 sl n) :: (tl ++ (kl, listOf ys.toArray ys.length) :: (L + 1 + 1, om1) :: (tabL 243 posR t1 ++ core))))))) → @Ne Nat ol a → @Ne Nat il1 a → (∀ p ∈ tabL 250 posL t2', p.1 ≠ a) → (∀ p ∈ (gl, listOf gs.toArray gs.length) :: (tl4 ++ (vl, listOf vs.toArray vs.length) :: (fl, listOf fys.toArray fys.length) :: (cr, crO cc tc3 sl n) :: (tl ++ (kl, listOf ys.toArray ys.length) :: (L + 1 + 1, om1) :: (core))), p.1 ≠ a) → @Ne Nat dl9 a → ∀ p ∈ ((dl9, listOf dvs.toArray dn) :: (tl9 ++ (hl, listOf hvs.toArray hn) :: (tl6 ++ (ol, listOf ovs.toArray ko') :: (il1, listOf ivs.toArray ki') :: (tabL 250 posL t2' ++ (gl, listOf gs.toArray gs.length) :: (tl4 ++ (vl, listOf vs.toArray vs.length) :: (fl, listOf fys.toArray fys.length) :: (cr, crO cc tc3 sl n) :: (tl ++ (kl, listOf ys.toArray ys.length) :: (L + 1 + 1, om1) :: (core))))))), p.1 ≠ a := fun a o o9 g1 g2 g3 g4 g5 g6 g7 =>
    List.forall_mem_cons.mpr ⟨g7, all_app (fun p hp => Nat.ne_of_gt (ord9 (a, o9) g2 p hp)) (List.forall_mem_cons.mpr ⟨o7 a o g1 _ (.head _), all_app (fun p hp => o7 a o g1 p (.tail _ hp)) (List.forall_mem_cons.mpr ⟨g3, List.forall_mem_cons.mpr ⟨g4, all_app g5 g6⟩⟩)⟩)⟩
  have x11 := o11 x _ _ (.head _) (.head _) (by omega) (by omega) (td x (by omega) xil) (mo x _ mx (by omega) (by omega) core (cd x (by omega))) (fun e => hdlne _ (.head _) e.symm)
  have d11 := o11 d _ _ (.tail _ (.head _)) (.tail _ (.head _)) (by omega) (by omega) (td d (by omega) dil) (mo d _ md (by omega) (by omega) core (cd d (by omega))) (fun e => hdlne (d, _) (.tail _ (.head _)) e.symm)
  have t243 : ∀ p ∈ tabL 250 posL t2', p.1 ≠ 243 := tab_off N8 hT2' (by exact fun p hp => mem_nth (.e _ (.e _ (.e _ (.l _ (.e _ (.e _ (.l _ .nil))))))) _ 6 hp) (m7' _ (by exact mem_nth (.e _ (.l _ (.e _ (.e _ (.l _ (.e _ (.l _ (.e _ (.e _ (.e _ (.l _ (.e _ (.e _ (.l _ .nil)))))))))))))) _ 13 hp1)) hn1 b1.symm
  have p11 := o11 243 (tabObj ps1) (tabObj ps1) (m6' _ m243') (m7' _ (by exact mem_nth (.e _ (.l _ (.e _ (.e _ (.l _ (.e _ (.l _ (.e _ (.e _ (.e _ (.l _ (.e _ (.e _ (.l _ .nil)))))))))))))) _ 13 hp1)) (by omega) (by omega) t243 (mo 243 _ (i1 _ m243) a2 a4 core k243) (fun e => hdlne (243, tabObj ps1) (by exact mem_nth (.e _ (.e _ (.l _ (.e _ (.l _ (.e _ (.e _ (.l _ (.e _ (.l _ (.e _ (.e _ (.e _ (.l _ (.e _ (.e _ (.l _ .nil))))))))))))))))) _ 16 hp1) e.symm)
  have hps : psOf (rowT fs) = psOf row := by rw [← hrow]
  refine wpAny_execs_cons ?_
  refine s11 w st11 sc h11 hsc L fa ((dl9, listOf dvs.toArray dn) :: (tl9 ++ (hl, listOf hvs.toArray hn) :: (tl6 ++ (ol, listOf ovs.toArray ko') :: (il1, listOf ivs.toArray ki') :: (tabL 250 posL t2' ++ (gl, listOf gs.toArray gs.length) :: (tl4 ++ (vl, listOf vs.toArray vs.length) :: (fl, listOf fys.toArray fys.length) :: (cr, crO cc tc3 sl n) :: (tl ++ (kl, listOf ys.toArray ys.length) :: (L + 1 + 1, om1) :: (core))))))) x d es9 n9 il1 ol dl9 kl vl (Str.ofString "") t6 st' tfi dvs ys vs dn ys.length vs.length (psOf row) ks t1 (fs.map (·.2)) b fi W9 d11 x11 dx (.head _) (hdD.mono fun p hp => by exact mem_nth (.e _ (.l _ .nil)) _ 1 hp) (by exact mem_nth (.e _ (.l _ (.e _ (.l _ (.e _ (.e _ (.l _ (.e _ (.l _ (.e _ (.e _ (.e _ (.l _ (.e _ .nil)))))))))))))) _ 13 (.head _)) (hkD _) (by omega) (hps ▸ PL.psn) (hps ▸ PL.psl) (hps ▸ PL.psx) (by exact mem_nth (.e _ (.l _ (.e _ (.l _ (.e _ (.e _ (.l _ (.e _ (.l _ (.e _ .nil)))))))))) _ 9 (.head _)) (hvD.mono fun p hp => by exact mem_nth (.e _ (.l _ (.e _ (.l _ (.e _ (.e _ (.l _ (.e _ (.l _ (.e _ (.e _ (.e _ (.l _ .nil))))))))))))) _ 12 hp) PL.ok6 (by rw [List.length_map]; omega) PL.fle (hps ▸ PL.rd) (fun p hp => Rd p (List.mem_append.mpr (.inl hp))) p11 hT1 ⟨g_w, g_k, g_v, g_1, g_b, trivial⟩ B F11 X (cb_drop N11 (by exact prm (.e _ (.e _ (.e _ (.l _ (.e _ (.l _ (.e _ (.e _ (.l _ (.e _ (.l _ (.e _ (.e _ (.e _ (.l _ (.e _ (.e _ (.l _ .nil)))))))))))))))))) _ 18 [0, 1, 17, 2, 3, 4, 5, 6, 7, 8, 9, 10, 11, 12, 13, 14, 15, 16])) T C1 ?_
  intro t1' hT1' htc11 h12' tk12 F12 N12
  dsimp only
  refine wpAny_execs_nil ?_
  exact hQ cc tc3 om1 _ t1' t2' m8 h12' tk12 (by omega) (by omega) hom1 hT1' hT2' (htc11.imp (fun h => h) fun h c oc e p hp => h c oc e p (by exact mem_last (.e _ (.e _ (.l _ (.e _ (.l _ (.e _ (.l _ (.e _ (.e _ (.l _ (.e _ (.l _ (.e _ (.e _ (.e _ (.l _ (.e _ (.e _ .nil)))))))))))))))))) hp)) (htc6.imp (fun h => h) fun h c oc e p hp => h c oc e p (by exact mem_last (.e _ (.e _ (.e _ (.e _ (.l _ (.e _ (.l _ (.e _ (.e _ (.e _ (.l _ (.e _ (.e _ (.l _ .nil)))))))))))))) hp)) F12 (cb_drop N12 (by exact prm (.l _ (.e _ (.l _ (.e _ (.l _ (.e _ (.e _ (.l _ (.e _ (.l _ (.e _ (.e _ (.e _ (.l _ (.e _ (.e _ .nil)))))))))))))))) _ 16 [12, 15, 0, 7]))
end Mine
end
section
namespace Mine
theorem kw_LT11_0 : True := by
  k_with_none
  w_top off
  k_with "KALL" => (first | exact List.forall_mem_nil _ | with_reducible assumption | (refine' List.forall_mem_cons.mpr ⟨?a, ?b⟩; (case a => k_ne); (case b => k_all)))
  k_with "KMEM" => (first | with_reducible assumption | (change (_ : Addr × Obj) ∈ (_ : List (Addr × Obj)); with_reducible assumption) | exact List.mem_append.mpr (.inl (by with_reducible assumption)) | (refine List.mem_append.mpr (.inr ?_); k_mem))
  k_with "exec Assign" => walk_at "FOLD"
  k_with "exec Return some" => walk_at "FOLD"
  k_with "exec If" => walk_at "FOLD"
  k_with "exec AugAssign" => walk_at "FOLD"
  k_with "exec Expr" => walk_at "FOLD"
  k_with "eval Tuple" => walk_at "FOLD"
  k_with "eval List" => walk_at "FOLD"
  k_with "eval BinOp" => walk_at "FOLD"
  k_with "eval Call" => walk_at "FOLD"
  k_with "eval Subscript" => walk_at "FOLD"
  k_with "eval IfExp" => walk_at "FOLD"
  k_with "isTrue BoolOp" => walk_at "FOLD"
  k_with "isTrue Compare" => walk_at "FOLD"
  k_with "eval Call Attribute" => walk_at "FOLD"
  k_with "FOLD" => ((fail_if_success (fail_if_success k_fold)); refine (let qk := _; let ek := _; (?_ : wpAny _ _ _ qk ek _)))
  k_with "execs cons" => (refine wp_tk s ?_; intro _)
  k_with "CALLS" => (k_here; k_dflt (refine' Does.use (next_use _ _ _ _ _ _ _ _ _ _ _ _ _ ?s1 ?U ?s2 hslcr hzs hls ?s6) ?k1 ?k2 ?k3 ?k4 ?k5 ?kK ?kd ?ku ?_; (case k1 => k_asm); (case k2 => k_asm); (case k3 => k_asm); (case k4 => k_asm); (case k5 => k_asm); (case kK => exact rfl); (case kd => k_dflt (exact Nat.le_of_ble_eq_true rfl)); (case ku => k_dflt (exact Nat.le_of_ble_eq_true rfl)); (case U => k_updF); (case s1 => decide); (case s2 => k_dflt k_mem); (case s6 => constructor <;> omega)); intro r9 t90 u90 r90 r91 hh9 ttk9 FF9 NN9; (try dsimp only at NN9); (try dsimp only); (try k_fold))
  k_with "call ref" => (first | walk_at "CALLS" | refine hold ?_)
  k_with "execs cons Assign cons" => (refine hold ?_)
  trivial
inductive LlI (L cr sl : Addr) (us : List Value) (kn n : Nat) (oc : Obj) (I : Addr) (q : Unit) (items : List Itm) (m1 : PySem.Str → Option Value) (nx : Ledger) : Prop
  | mk (kz : List Int) (cc : Int) (tc' : Tok) (om' : Obj) (vm' : Option Value) (t1 t2 : TabSt) (h0 : items = kz.map (fun k => Itm.tok (fun t => .int k t))) (h1 : 0 ≤ cc) (h2 : cc + 10 * kz.length ≤ 60) (h3 : om'.data = .cell vm') (h4 : TabOk (qualL "_law_read") t1) (h5 : TabOk (qualL "law") t2) (h6 : (∀ p ∈ tabL 243 posR t1, p.1 ≠ I)) (h7 : (∀ p ∈ tabL 250 posL t2, p.1 ≠ I)) (h8 : nx = (cr, crO cc tc' sl n) :: (L + 1 + 1, om') :: (tabL 243 posR t1 ++ (tabL 250 posL t2 ++ [(sl, listOf us.toArray kn), (L + 1, oc)]))) : LlI L cr sl us kn n oc I q items m1 nx
theorem law_loop (w : World) (st : Stmt) (sc : Scope) (hst : lawSt w.params 1 = some st) (hsc : lawScope w.params = some sc)
   (L fa cr sl : Addr) (us : List Value) (zs : List Int) (kn n : Nat) (om oc : Obj) (tc : Tok) (hzs : IntsAre us zs) (hls : us.length ≤ 63) (hslcr : sl ≠ cr) (vm : Option Value) (homd : om.data = .cell vm) (hocd : oc.data = .cell (some (.ref cr)))
   (o1 : @LT.lt Nat _ (L + 1 + 1) sl) (o2 : @LT.lt Nat _ sl cr) (oP : @LT.lt Nat _ 243 L) (oQ : @LT.lt Nat _ 250 L)
   {mean : ExcName → Option Value} {mg mb : PySem.Str → Option Value} {h₀ : Heap} {m : PySem.Str → Option Value} {s : Shared} {Q : Flow → Shared → Prop} {E : Value → Shared → Prop}
   (B : Below callerA h₀ [] h₀) (F : Fr h₀ L s.heap m) (X : (MineH.K w.params).In h₀) (N : News h₀ L s.heap [(cr, crO 0 tc sl n), (sl, listOf us.toArray kn), (L + 1 + 1, om), (L + 1, oc), (243, tabObj #[]), (250, tabObj #[])]) (T : Top topProg topLs mean mg mb h₀) (C1 : CodeHd h₀ 247 243) (C2 : CodeHd h₀ 252 250)
   (hE : PassesOwn (model PySem.Challenge.rw_pf0007_01.row.prog w) (callerA.deeper (envOfC (Str.ofString "law") sc L fa (.ref 252))) (envOfC (Str.ofString "law") sc L fa (.ref 252)) E)
   (hQ : ∀ m' p1 p2 h' tk', Fr h₀ L h' m' → News h₀ L h' [(243, tabObj p1), (250, tabObj p2)] → Q .next { s with heap := h', toks := tk' }) :
   wpAny (model PySem.Challenge.rw_pf0007_01.row.prog w) (callerA.deeper (envOfC (Str.ofString "law") sc L fa (.ref 252))) (exec st (envOfC (Str.ofString "law") sc L fa (.ref 252))) Q E s := by
  have hsc' := id hsc
  have hst0 := id hst
  conv at hst => lhs; whnf
  conv at hsc' => lhs; whnf
  cases hst
  cases hsc'
  refine For_turns F ?_
  k_steps
  rename_i FF9 NN9 h9 tk9 t9 u9 v9 R9 F9 N9 K9
  have N8 : News h₀ L h9 ((cr, crO (0 + 1) u90 sl n) :: (L + 1 + 1, om) :: (tabL 243 posR .none ++ (tabL 250 posL .none ++ [(sl, listOf us.toArray kn), (L + 1, oc)]))) := cb_drop N9 (by exact prm (.e _ (.e _ (.e _ (.e _ (.e _ (.e _ .nil)))))) _ 6 [0, 2, 4, 5, 1, 3])
  clear NN9 FF9
  obtain ⟨r, rfl⟩ : ∃ r : Nat, r9 = (r : Int) := ⟨r9.toNat, by omega⟩
  have hr : r = 0 ∨ r = 1 ∨ r = 2 ∨ r = 3 := by omega
  have hsm : Builtin.Range.small 0 (1 + (r : Int)) 1 = true := by rcases hr with rfl | rfl | rfl | rfl <;> decide +kernel
  have hns : Builtin.Range.rangeSize 0 (1 + (r : Int)) 1 = ((r + 1 : Nat) : Int) := by rcases hr with rfl | rfl | rfl | rfl <;> decide +kernel
  have hks : (rangeKs 0 (r + 1)).length ≤ 4 := by rcases hr with rfl | rfl | rfl | rfl <;> decide +kernel
  refine iter_rangeTurns rfl R9 hsm hns F9 N8 ?_
  intro I lI
  refine items_ind (LlI L cr sl us kn n oc I) ?nil ?cons ((rangeKs 0 (r + 1)).map fun k => .tok (fun t => .int k t)) () _ _ ?start
  case start =>
    exact ⟨rangeKs 0 (r + 1), 0 + 1, u90, om, vm, .none, .none, rfl, by omega, by omega, homd, trivial, trivial, fun p hp => Nat.ne_of_lt (lI p (.tail _ (.tail _ (List.mem_append.mpr (.inl hp))))), fun p hp => Nat.ne_of_lt (lI p (.tail _ (.tail _ (List.mem_append.mpr (.inr (List.mem_append.mpr (.inl hp))))))), rfl⟩
  case nil =>
    rintro _ m1 nx ⟨kz, cc, tc', om', vm', t1, t2, hit, h0, h1, hom, hT1, hT2, hI1, hI2, rfl⟩
    obtain ⟨p1, hp1⟩ := tab_mem 243 posR t1
    obtain ⟨p2, hp2⟩ := tab_mem 250 posL t2
    refine ItemsRest.zero (fun h2 tk2 F2 N2 => ?_)
    exact hQ m1 p1 p2 h2 tk2 F2 (cb_drop N2 (by exact List.forall_mem_cons.mpr ⟨mem_nth (.e _ (.e _ (.l _ .nil))) _ 2 hp1, List.forall_mem_cons.mpr ⟨mem_nth (.e _ (.e _ (.l _ (.l _ .nil)))) _ 3 hp2, fun _ h => nomatch h⟩⟩))
  case cons =>
    rintro _ it rs m1 nx ⟨kz, cc, tc', om', vm', t1, t2, hit, h0, h1, hom, hT1, hT2, hI1, hI2, rfl⟩ IH
    cases kz with
    | nil => cases hit
    | cons k kz =>
    have e : it = Itm.tok (fun t => .int k t) ∧ rs = kz.map (fun k => Itm.tok (fun t => .int k t)) := by simpa using hit
    obtain ⟨rfl, rfl⟩ := e
    refine ItemsRest.tok (fun t h2 tk2 F2 => ?_)
    ktu_objs
    k_steps
    unfold Hold
    rename_i oI hcI NI0 h3 F3 N3
    have Icr : @LT.lt Nat _ cr I := lI _ (.head _)
    have Iom : @LT.lt Nat _ (L + 1 + 1) I := lI (L + 1 + 1, om) (.tail _ (.head _))
    have I243 : @LT.lt Nat _ 243 I := by omega
    have Isl : @LT.lt Nat _ sl I := by omega
    have Il1 : @LT.lt Nat _ (L + 1) I := by omega
    have k3 : ∀ (a : Nat), @Ne Nat I a → @Ne Nat sl a → @Ne Nat (L + 1) a → ∀ p ∈ [(I, oI), (sl, listOf us.toArray kn), (L + 1, oc)], p.1 ≠ a := fun a e1 e2 e3 => List.forall_mem_cons.mpr ⟨e1, List.forall_mem_cons.mpr ⟨e2, List.forall_mem_cons.mpr ⟨e3, List.forall_mem_nil _⟩⟩⟩
    rw [List.length_cons] at h1
    have h1' : cc + 10 * (kz.length : Int) + 10 ≤ 60 := by omega
    refine law_turn w _ _ _ _ _ _ _ _ _ _ _ _ _ hsc ?e0 ?e1 ?e2 ?e3 ?e4 ?e5 ?e6 ?e7 ?e8 ?e9 ?e10 ?e11 L fa cr sl us zs kn n om' oc cc tc' t1 t2 [(I, oI), (sl, listOf us.toArray kn), (L + 1, oc)] hzs hls hslcr vm' hom hocd ⟨h0, by omega⟩ (.tail _ (.head _)) (.tail _ (.tail _ (.head _))) (k3 cr (by omega) (by omega) (by omega)) (k3 (L + 1 + 1) (by omega) (by omega) (by omega)) (k3 243 (by omega) (by omega) (by omega)) (k3 250 (by omega) (by omega) (by omega)) (by omega) (by omega) (by omega) (by omega) (by omega) hT1 hT2 B F3 X (cb_drop N3 (by exact prm (.e _ (.e _ (.e _ (.l _ (.l _ .nil))))) _ 5 [1, 2, 3, 4, 0])) T C1 C2 ?hQ
    case hQ =>
      intro c' tc2 om2 vm2 t1' t2' m2 h4 tk4 hc0 hc1 hom2 hT1' hT2' ht1 ht2 F4 N4
      have hI1' : ∀ p ∈ tabL 243 posR t1', p.1 ≠ I := by
        rcases ht1 with rfl | ht1
        · exact hI1
        · cases t1' with
          | none => exact List.forall_mem_cons.mpr ⟨neN (by omega), List.forall_mem_nil _⟩
          | made c9 oc9 => exact List.forall_mem_cons.mpr ⟨neN (by omega), List.forall_mem_cons.mpr ⟨Nat.ne_of_gt (ht1 c9 oc9 rfl _ (.head _)), List.forall_mem_nil _⟩⟩
      have hI2' : ∀ p ∈ tabL 250 posL t2', p.1 ≠ I := by
        rcases ht2 with rfl | ht2
        · exact hI2
        · cases t2' with
          | none => exact List.forall_mem_cons.mpr ⟨neN (by omega), List.forall_mem_nil _⟩
          | made c9 oc9 => exact List.forall_mem_cons.mpr ⟨neN (by omega), List.forall_mem_cons.mpr ⟨Nat.ne_of_gt (ht2 c9 oc9 rfl _ (.head _)), List.forall_mem_nil _⟩⟩
      have hne : ∀ p ∈ (cr, crO c' tc2 sl n) :: (L + 1 + 1, om2) :: (tabL 243 posR t1' ++ (tabL 250 posL t2' ++ [(sl, listOf us.toArray kn), (L + 1, oc)])), p.1 ≠ I := List.forall_mem_cons.mpr ⟨neN (show @Ne Nat cr I by omega), List.forall_mem_cons.mpr ⟨neN (show @Ne Nat (L + 1 + 1) I by omega), all_app hI1' (all_app hI2' (List.forall_mem_cons.mpr ⟨neN (show @Ne Nat sl I by omega), List.forall_mem_cons.mpr ⟨neN (show @Ne Nat (L + 1) I by omega), List.forall_mem_nil _⟩⟩))⟩⟩
      refine ⟨h4, tk4, m2, (cr, crO c' tc2 sl n) :: (L + 1 + 1, om2) :: (tabL 243 posR t1' ++ (tabL 250 posL t2' ++ [(sl, listOf us.toArray kn), (L + 1, oc)])), rfl, F4, cb_drop N4 (by exact prm (.e _ (.e _ (.l _ (.l _ (.e _ .nil))))) _ 5 [4, 0, 1, 2, 3]), fun p hp q hq => ?_, trivial, IH () m2 _ ⟨kz, c', tc2, om2, vm2, t1', t2', rfl, hc0, by omega, hom2, hT1', hT2', hI1', hI2', rfl⟩⟩
      rw [List.mem_singleton.mp hq]
      exact hne p hp
    all_goals (unfold turnSt; rw [hst0]; rfl)
end Mine
end
section
namespace Mine
theorem kw_LT12_0 : True := by
  k_with_none
  w_top off
  k_with "KALL" => (first | exact List.forall_mem_nil _ | with_reducible assumption | (refine' List.forall_mem_cons.mpr ⟨?a, ?b⟩; (case a => k_ne); (case b => k_all)))
  k_with "KMEM" => (first | with_reducible assumption | (change (_ : Addr × Obj) ∈ (_ : List (Addr × Obj)); with_reducible assumption) | exact List.mem_append.mpr (.inl (by with_reducible assumption)) | (refine List.mem_append.mpr (.inr ?_); k_mem))
  k_with "exec For Name Call cons nil" => (refine hold ?_)
  trivial
theorem law_top : PySem.Challenge.rw_pf0007_01.Holds := MineH.hd (by
  w_strict (k_go0; (all_goals try k_fold); k_steps; unfold Hold
            rename_i l0 D ws hh2 hI hC hL l1a l' hh1 l1b h' o' F' N' d'
            refine' law_loop _ _ _ ?hst ?hsc _ _ _ _ _ _ _ _ _ _ _ hI ?hls ?hslcr _ ?homd d' ?o1 l1b.1 ?oP ?oQ ?B F' ?X N' ?T ?C1 ?C2 ?hE ?hQ
            case B => k_asm
            case X => k_asm
            case T => k_asm
            case C1 => k_dflt assumption
            case C2 => k_dflt assumption
            case homd => with_reducible assumption
            case o1 => exact l1a.1
            case oP => exact l0.1
            case oQ => exact l0.2
            case hslcr => exact neN (Nat.ne_of_lt l1b.1)
            case hE => passes_own
            case hls => exact Nat.le_trans (Nat.le_of_eq (hI.length.trans hC)) (by omega)
            case hst => rfl
            case hsc => rfl
            case hQ =>
              intro m' p1 p2 h9 tk9 F9 N9
              k_steps))
end Mine
end
set_option maxRecDepth 100000 in
set_option maxHeartbeats 8000000 in
theorem PySem.Challenge.cw_pf0007_01_holds : PySem.Challenge.rw_pf0007_01.Holds := by
  exact Mine.law_top
