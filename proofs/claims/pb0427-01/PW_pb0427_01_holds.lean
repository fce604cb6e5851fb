import PyProof.Rows.All
import Wide.All
import OpenK.AllK
import Wide.FinOn
import PySem.Challenge.RW_pb0427_01
set_option Elab.async false
set_option linter.unusedVariables false
set_option linter.unusedSimpArgs false
set_option tactic.hygienic false
set_option genSizeOf false
set_option genInjectivity false
set_option bootstrap.genMatcherCode false
section
namespace Mine

inductive Bop | add | sub | mul | mod | fdiv | shl
inductive Cop | lt | le | gt | ge | eq | ne | isin | notin
inductive Bi | ord | len | str | range | toInt | sum

inductive E where
  | none | bool (b : Bool) | int (i : Int) | str (l : List Nat)
  | loc (i : Nat) | glob (g : Nat)
  | bop (o : Bop) (a b : E)
  | cmp (a : E) (o : Cop) (b : E)
  | cmp2 (a : E) (o : Cop) (b : E) (o' : Cop) (c : E)
  | and (l : List E) | or (l : List E)
  | not (a : E) | ite (t a b : E)
  | call (f : Nat) (as : List E)
  | mk (c : Nat) (as : List E)
  | bi (b : Bi) (as : List E)
  | meth (o : E) (m : Nat) (as : List E)
  | attr (o : E) (a : Nat)
  | spaced (i : Nat)
  | sub (o i : E)
  | sl2 (o a b : E) | slFrom (o a : E) | slTo (o b : E)
  | tup (l : List E) | lst (l : List E)
  | intcomp (e : E)
  | bad

inductive S where
  | asg (i : Nat) (e : E)
  | asg2 (i j : Nat) (e : E)
  | setattr (o : E) (a : Nat) (e : E)
  | setitem (o i e : E)
  | expr (e : E)
  | ife (t : E) (a b : List S)
  | whl (t : E) (b : List S)
  | forr (i : Nat) (it : E) (b : List S)
  | ret (e : E)
  | raise (a b : E)
  | tryr (b : List S) (l : List Nat)
  | bad

structure Fn where
  np : Nat
  nl : Nat
  body : List S

inductive PV where
  | none | bool (b : Bool) | int (i : Int) | str (l : List Nat)
  | tup (l : List PV)
  | lis (l : List PV)
  | inst (c : Nat) (fs : List (Nat × PV))
  | rng (a b : Int)
  | ref (i : Nat)

inductive MO where
  | lst (l : List PV)
  | inst (c : Nat) (fs : List (Nat × PV))
noncomputable abbrev Store := List MO
noncomputable abbrev Loc := List (Option PV)

/-- 0 digit_of ['sign', 'code'] -/
noncomputable def b0 : List S := [
    .asg 1 (.bi .ord [(.loc 0)]),
    .ife (.cmp2 (.int 48) .le (.loc 1) .le (.int 57)) [.ret (.bop .sub (.loc 1) (.int 48))] [],
    .ife (.cmp2 (.int 97) .le (.loc 1) .le (.int 102)) [.ret (.bop .sub (.loc 1) (.int 87))] [],
    .ife (.cmp2 (.int 65) .le (.loc 1) .le (.int 70)) [.ret (.bop .sub (.loc 1) (.int 55))] [],
    .ret (.int 16)]
/-- 1 is_letter ['sign', 'code'] -/
noncomputable def b1 : List S := [
    .asg 1 (.bi .ord [(.loc 0)]),
    .ret (.or [(.cmp2 (.int 97) .le (.loc 1) .le (.int 122)), (.cmp2 (.int 65) .le (.loc 1) .le (.int 90))])]
/-- 2 begins_name ['sign'] -/
noncomputable def b2 : List S := [
    .ret (.or [(.call 1 [(.loc 0)]), (.cmp (.loc 0) .eq (.str [95])), (.cmp (.loc 0) .eq (.str [46]))])]
/-- 3 is_name_sign ['sign', 'code'] -/
noncomputable def b3 : List S := [
    .asg 1 (.bi .ord [(.loc 0)]),
    .ret (.or [(.cmp2 (.int 48) .le (.loc 1) .le (.int 57)), (.cmp2 (.int 97) .le (.loc 1) .le (.int 122)), (.cmp2 (.int 65) .le (.loc 1) .le (.int 90)), (.cmp (.loc 0) .eq (.str [95])), (.cmp (.loc 0) .eq (.str [46])), (.cmp (.loc 0) .eq (.str [36]))])]
/-- 4 number_worth ['word', 'base', 'begin', 'worth', 'sign', 'figure'] -/
noncomputable def b4 : List S := [
    .asg 1 (.int 10),
    .asg 2 (.int 0),
    .ife (.and [(.cmp (.bi .len [(.loc 0)]) .gt (.int 1)), (.cmp (.sub (.loc 0) (.int 0)) .eq (.str [48]))]) [.asg 1 (.int 8), .asg 2 (.int 1), .ife (.or [(.cmp (.sub (.loc 0) (.int 1)) .eq (.str [120])), (.cmp (.sub (.loc 0) (.int 1)) .eq (.str [88]))]) [.asg 1 (.int 16), .asg 2 (.int 2)] [.ife (.or [(.cmp (.sub (.loc 0) (.int 1)) .eq (.str [98])), (.cmp (.sub (.loc 0) (.int 1)) .eq (.str [66]))]) [.asg 1 (.int 2), .asg 2 (.int 2)] []]] [],
    .ife (.cmp (.loc 2) .eq (.bi .len [(.loc 0)])) [.ret .bad] [],
    .asg 3 (.int 0),
    .forr 4 (.slFrom (.loc 0) (.loc 2)) [.asg 5 (.call 0 [(.loc 4)]), .ife (.cmp (.loc 5) .ge (.loc 1)) [.ret .bad] [], .asg 3 (.bop .add (.bop .mul (.loc 3) (.loc 1)) (.loc 5))],
    .ret (.loc 3)]
/-- 5 Token_is_sign ['self', 'text'] -/
noncomputable def b5 : List S := [
    .ret (.and [(.cmp (.attr (.loc 0) 0) .eq (.str [115, 105, 103, 110])), (.cmp (.attr (.loc 0) 1) .eq (.loc 1))])]
/-- 6 LineReader_place ['self', 'at'] -/
noncomputable def b6 : List S := [
    .ret (.mk 0 [(.attr (.loc 0) 2), (.bop .add (.loc 1) (.int 1))])]
/-- 7 LineReader_is_done ['self'] -/
noncomputable def b7 : List S := [
    .whl (.and [(.cmp (.attr (.loc 0) 3) .lt (.bi .len [(.attr (.loc 0) 1)])), (.cmp (.sub (.attr (.loc 0) 1) (.attr (.loc 0) 3)) .isin (.tup [(.str [32]), (.str [9]), (.str [13])]))]) [.setattr (.loc 0) 3 (.bop .add (.attr (.loc 0) 3) (.int 1))],
    .ret (.or [(.cmp (.attr (.loc 0) 3) .ge (.bi .len [(.attr (.loc 0) 1)])), (.cmp (.sub (.attr (.loc 0) 1) (.attr (.loc 0) 3)) .eq (.str [35]))])]
/-- 8 LineReader_passed ['self', 'end', 'begin'] -/
noncomputable def b8 : List S := [
    .asg 2 (.attr (.loc 0) 3),
    .setattr (.loc 0) 3 (.loc 1),
    .ret (.sl2 (.attr (.loc 0) 1) (.loc 2) (.loc 1))]
/-- 9 LineReader_name_end ['self', 'at', 'here'] -/
noncomputable def b9 : List S := [
    .asg 2 (.loc 1),
    .whl (.and [(.cmp (.loc 2) .lt (.bi .len [(.attr (.loc 0) 1)])), (.call 3 [(.sub (.attr (.loc 0) 1) (.loc 2))])]) [.asg 2 (.bop .add (.loc 2) (.int 1))],
    .ret (.loc 2)]
/-- 10 LineReader_number ['self', 'at', 'word', 'worth'] -/
noncomputable def b10 : List S := [
    .asg 1 (.meth (.loc 0) 4 [(.attr (.loc 0) 3)]),
    .asg 2 (.meth (.loc 0) 6 [(.meth (.loc 0) 5 [(.attr (.loc 0) 3)])]),
    .asg 3 (.call 4 [(.loc 2)]),
    .ife (.cmp (.loc 3) .gt (.glob 1)) [.raise (.str [110, 117, 109, 98, 101, 114, 32, 116, 111, 111, 32, 108, 97, 114, 103, 101]) (.loc 1)] [],
    .ife (.cmp (.loc 3) .ge (.int 0)) [.ret (.mk 1 [(.str [110, 117, 109, 98, 101, 114]), (.loc 2), (.loc 3), (.loc 1)])] [],
    .asg 3 .bad,
    .ife (.cmp (.loc 3) .ge (.int 0)) [.ret (.mk 1 [(.str [108, 111, 99, 97, 108]), (.loc 2), (.loc 3), (.loc 1)])] [],
    .raise (.bop .add (.str [98, 97, 100, 32, 110, 117, 109, 98, 101, 114, 32]) (.loc 2)) (.loc 1)]
/-- 11 LineReader_mark ['self', 'at', 'pair', 'word'] -/
noncomputable def b11 : List S := [
    .asg 1 (.meth (.loc 0) 4 [(.attr (.loc 0) 3)]),
    .ife (.cmp (.sub (.attr (.loc 0) 1) (.attr (.loc 0) 3)) .notin (.glob 0)) [.raise (.str [98, 97, 100, 32, 115, 105, 103, 110]) (.loc 1)] [],
    .asg 2 (.sl2 (.attr (.loc 0) 1) (.attr (.loc 0) 3) (.bop .add (.attr (.loc 0) 3) (.int 2))),
    .asg 3 (.meth (.loc 0) 6 [(.ite (.or [(.cmp (.loc 2) .eq (.str [60, 60])), (.cmp (.loc 2) .eq (.str [62, 62]))]) (.bop .add (.attr (.loc 0) 3) (.int 2)) (.bop .add (.attr (.loc 0) 3) (.int 1)))]),
    .ret (.mk 1 [(.str [115, 105, 103, 110]), (.loc 3), (.loc 3), (.loc 1)])]
/-- 12 LineReader_token ['self', 'sign', 'at', 'word'] -/
noncomputable def b12 : List S := [
    .asg 1 (.sub (.attr (.loc 0) 1) (.attr (.loc 0) 3)),
    .ife (.call 2 [(.loc 1)]) [.asg 2 (.meth (.loc 0) 4 [(.attr (.loc 0) 3)]), .asg 3 (.meth (.loc 0) 6 [(.meth (.loc 0) 5 [(.attr (.loc 0) 3)])]), .ret (.mk 1 [(.str [110, 97, 109, 101]), (.loc 3), (.loc 3), (.loc 2)])] [],
    .ife (.cmp (.call 0 [(.loc 1)]) .lt (.int 10)) [.ret (.meth (.loc 0) 7 [])] [],
    .ife (.cmp (.loc 1) .eq (.str [39])) [.ret (.meth (.loc 0) 8 [])] [],
    .ife (.cmp (.loc 1) .eq (.str [34])) [.ret (.meth (.loc 0) 9 [])] [],
    .ife (.and [(.cmp (.loc 1) .eq (.str [37])), (.cmp (.bop .add (.attr (.loc 0) 3) (.int 1)) .lt (.bi .len [(.attr (.loc 0) 1)])), (.call 1 [(.sub (.attr (.loc 0) 1) (.bop .add (.attr (.loc 0) 3) (.int 1)))])]) [.ret (.meth (.loc 0) 10 [])] [],
    .ret (.meth (.loc 0) 11 [])]
/-- 13 line_tokens ['text', 'line', 'reader', 'found'] -/
noncomputable def b13 : List S := [
    .asg 2 (.mk 2 [(.loc 0), (.loc 1)]),
    .asg 3 (.lst []),
    .whl (.not (.meth (.loc 2) 12 [])) [.expr (.meth (.loc 3) 14 [(.meth (.loc 2) 13 [])])],
    .expr (.meth (.loc 3) 14 [(.mk 1 [(.str [101, 110, 100]), (.str []), (.str []), (.meth (.loc 2) 4 [(.attr (.loc 2) 3)])])]),
    .ret (.loc 3)]
/-- 14 Cursor_peek ['self'] -/
noncomputable def b14 : List S := [
    .ret (.sub (.attr (.loc 0) 15) (.attr (.loc 0) 3))]
/-- 15 Cursor_take ['self', 'token'] -/
noncomputable def b15 : List S := [
    .asg 1 (.sub (.attr (.loc 0) 15) (.attr (.loc 0) 3)),
    .ife (.cmp (.attr (.loc 1) 0) .ne (.str [101, 110, 100])) [.setattr (.loc 0) 3 (.bop .add (.attr (.loc 0) 3) (.int 1))] [],
    .ret (.loc 1)]
/-- 16 Cursor_is_sign ['self', 'text'] -/
noncomputable def b16 : List S := [
    .ret (.meth (.sub (.attr (.loc 0) 15) (.attr (.loc 0) 3)) 16 [(.loc 1)])]
/-- 17 Cursor_is_end ['self'] -/
noncomputable def b17 : List S := [
    .ret (.cmp (.attr (.sub (.attr (.loc 0) 15) (.attr (.loc 0) 3)) 0) .eq (.str [101, 110, 100]))]
/-- 18 Cursor_skip ['self', 'text'] -/
noncomputable def b18 : List S := [
    .ife (.meth (.loc 0) 16 [(.loc 1)]) [.setattr (.loc 0) 3 (.bop .add (.attr (.loc 0) 3) (.int 1)), .ret (.bool true)] [],
    .ret (.bool false)]
/-- 19 Cursor_need ['self', 'text'] -/
noncomputable def b19 : List S := [
    .ife (.not (.meth (.loc 0) 17 [(.loc 1)])) [.raise (.bop .add (.str [101, 120, 112, 101, 99, 116, 101, 100, 32]) (.loc 1)) (.meth (.loc 0) 18 [])] []]
/-- 20 Cursor_need_end ['self'] -/
noncomputable def b20 : List S := [
    .ife (.not (.meth (.loc 0) 19 [])) [.raise (.bop .add (.str [117, 110, 101, 120, 112, 101, 99, 116, 101, 100, 32]) (.attr (.meth (.loc 0) 20 []) 1)) (.meth (.loc 0) 18 [])] []]
/-- 21 Cursor_rest_place ['self'] -/
noncomputable def b21 : List S := [
    .ret (.attr (.sub (.attr (.loc 0) 15) (.attr (.loc 0) 3)) 3)]
/-- 22 Expr_told ['self'] -/
noncomputable def b22 : List S := [
    .ret (.tup [(.attr (.loc 0) 0)])]
/-- 23 Number_told ['self'] -/
noncomputable def b23 : List S := [
    .ret (.tup [(.str [110, 117, 109, 98, 101, 114]), (.attr (.loc 0) 21)])]
/-- 24 Symbol_told ['self'] -/
noncomputable def b24 : List S := [
    .ret (.tup [(.str [115, 121, 109, 98, 111, 108]), (.attr (.loc 0) 22)])]
/-- 25 Unary_told ['self'] -/
noncomputable def b25 : List S := [
    .ret (.tup [(.str [117, 110, 97, 114, 121]), (.attr (.loc 0) 23), (.meth (.attr (.loc 0) 24) 25 [])])]
/-- 26 Binary_told ['self', 'worth', 'part', 'inner', 'spine'] -/
noncomputable def b26 : List S := [
    .asg2 3 4 (.call 27 [(.loc 0)]),
    .asg 1 (.meth (.loc 3) 25 []),
    .forr 2 (.loc 4) [.asg 1 (.tup [(.str [98, 105, 110, 97, 114, 121]), (.attr (.loc 2) 23), (.loc 1), (.meth (.attr (.loc 2) 26) 25 [])])],
    .ret (.loc 1)]
/-- 27 left_spine ['node', 'spine', 'inner'] -/
noncomputable def b27 : List S := [
    .asg 1 (.lst []),
    .asg 2 (.loc 0),
    .whl (.cmp (.attr (.loc 2) 0) .eq (.str [98, 105, 110, 97, 114, 121])) [.expr (.meth (.loc 1) 14 [(.loc 2)]), .asg 2 (.attr (.loc 2) 27)],
    .expr (.meth (.loc 1) 28 []),
    .ret (.tup [(.loc 2), (.loc 1)])]
/-- 28 level_of ['sign'] -/
noncomputable def b28 : List S := [
    .ife (.or [(.cmp (.loc 0) .eq (.str [43])), (.cmp (.loc 0) .eq (.str [45]))]) [.ret (.int 1)] [],
    .ife (.or [(.cmp (.loc 0) .eq (.str [124])), (.cmp (.loc 0) .eq (.str [38])), (.cmp (.loc 0) .eq (.str [94]))]) [.ret (.int 2)] [],
    .ife (.or [(.cmp (.loc 0) .eq (.str [42])), (.cmp (.loc 0) .eq (.str [47])), (.cmp (.loc 0) .eq (.str [37])), (.cmp (.loc 0) .eq (.str [60, 60])), (.cmp (.loc 0) .eq (.str [62, 62]))]) [.ret (.int 3)] [],
    .ret (.int 0)]
/-- 29 binary_level ['token'] -/
noncomputable def b29 : List S := [
    .ife (.cmp (.attr (.loc 0) 0) .ne (.str [115, 105, 103, 110])) [.ret (.int 0)] [],
    .ret (.call 28 [(.attr (.loc 0) 1)])]
/-- 30 read_part ['cursor', 'depth', 'token', 'inner'] -/
noncomputable def b30 : List S := [
    .asg 2 (.meth (.loc 0) 20 []),
    .ife (.cmp (.loc 1) .gt (.glob 2)) [.raise (.str [101, 120, 112, 114, 101, 115, 115, 105, 111, 110, 32, 110, 101, 115, 116, 101, 100, 32, 116, 111, 111, 32, 100, 101, 101, 112]) (.attr (.loc 2) 3)] [],
    .ife (.cmp (.attr (.loc 2) 0) .eq (.str [110, 117, 109, 98, 101, 114])) [.expr (.meth (.loc 0) 29 []), .ret (.mk 4 [(.attr (.loc 2) 21)])] [],
    .ife (.cmp (.attr (.loc 2) 0) .eq (.str [110, 97, 109, 101])) [.expr (.meth (.loc 0) 29 []), .ife (.cmp (.attr (.loc 2) 1) .eq (.str [46])) [.ret (.mk 6 [])] [], .ret (.mk 5 [(.attr (.loc 2) 1)])] [],
    .ife (.or [(.meth (.loc 2) 16 [(.str [45])]), (.meth (.loc 2) 16 [(.str [126])]), (.meth (.loc 2) 16 [(.str [33])])]) [.expr (.meth (.loc 0) 29 []), .ret (.mk 7 [(.attr (.loc 2) 1), (.call 30 [(.loc 0), (.bop .add (.loc 1) (.int 1))])])] [],
    .ife (.meth (.loc 2) 16 [(.str [40])]) [.expr (.meth (.loc 0) 29 []), .asg 3 (.call 31 [(.loc 0), (.int 1), (.bop .add (.loc 1) (.int 1))]), .expr (.meth (.loc 0) 30 [(.str [41])]), .ret (.loc 3)] [],
    .raise (.str [101, 120, 112, 101, 99, 116, 101, 100, 32, 97, 110, 32, 101, 120, 112, 114, 101, 115, 115, 105, 111, 110]) (.attr (.loc 2) 3)]
/-- 31 read_level ['cursor', 'least', 'depth', 'left', 'level', 'sign'] -/
noncomputable def b31 : List S := [
    .asg 3 (.call 30 [(.loc 0), (.loc 2)]),
    .asg 4 (.call 29 [(.meth (.loc 0) 20 [])]),
    .whl (.cmp (.loc 4) .ge (.loc 1)) [.asg 5 (.attr (.meth (.loc 0) 29 []) 1), .asg 3 (.mk 8 [(.loc 5), (.loc 3), (.call 31 [(.loc 0), (.bop .add (.loc 4) (.int 1)), (.loc 2)])]), .asg 4 (.call 29 [(.meth (.loc 0) 20 [])])],
    .ret (.loc 3)]
/-- 32 read_expr ['cursor'] -/
noncomputable def b32 : List S := [
    .ret (.call 31 [(.loc 0), (.int 1), (.int 0)])]
/-- 33 expr_of ['text', 'cursor', 'node'] -/
noncomputable def b33 : List S := [
    .asg 1 (.mk 3 [(.call 13 [(.loc 0), (.int 1)])]),
    .asg 2 (.call 32 [(.loc 1)]),
    .expr (.meth (.loc 1) 31 []),
    .ret (.loc 2)]
/-- 34 bracketed ['node', 'least'] -/
noncomputable def b34 : List S := [
    .ife (.and [(.cmp (.attr (.loc 0) 0) .eq (.str [98, 105, 110, 97, 114, 121])), (.cmp (.call 28 [(.attr (.loc 0) 23)]) .lt (.loc 1))]) [.ret (.bop .add (.bop .add (.str [40]) (.call 36 [(.loc 0)])) (.str [41]))] [],
    .ret (.call 36 [(.loc 0)])]
/-- 35 show_leaf ['node'] -/
noncomputable def b35 : List S := [
    .ife (.cmp (.attr (.loc 0) 0) .eq (.str [110, 117, 109, 98, 101, 114])) [.ret (.bi .str [(.attr (.loc 0) 21)])] [],
    .ife (.cmp (.attr (.loc 0) 0) .eq (.str [115, 121, 109, 98, 111, 108])) [.ret (.attr (.loc 0) 22)] [],
    .ife (.cmp (.attr (.loc 0) 0) .eq (.str [104, 101, 114, 101])) [.ret (.str [46])] [],
    .ret (.bop .add (.attr (.loc 0) 23) (.call 34 [(.attr (.loc 0) 24), (.int 4)]))]
/-- 36 show_expr ['node', 'text', 'level', 'part', 'inner', 'spine', 'own'] -/
noncomputable def b36 : List S := [
    .asg2 4 5 (.call 27 [(.loc 0)]),
    .asg 1 (.call 35 [(.loc 4)]),
    .asg 2 (.int 4),
    .forr 3 (.loc 5) [.asg 6 (.call 28 [(.attr (.loc 3) 23)]), .ife (.cmp (.loc 2) .lt (.loc 6)) [.asg 1 (.bop .add (.bop .add (.str [40]) (.loc 1)) (.str [41]))] [], .asg 1 (.bop .add (.bop .add (.bop .add (.bop .add (.loc 1) (.str [32])) (.attr (.loc 3) 23)) (.str [32])) (.call 34 [(.attr (.loc 3) 26), (.bop .add (.loc 6) (.int 1))])), .asg 2 (.loc 6)],
    .ret (.loc 1)]
/-- 37 _law_next ['hand', 'many', 'at'] -/
noncomputable def b37 : List S := [
    .asg 2 (.sub (.loc 0) (.int 1)),
    .setitem (.loc 0) (.int 1) (.bop .add (.loc 2) (.int 1)),
    .ife (.cmp (.loc 2) .lt (.bi .len [(.sub (.loc 0) (.int 0))])) [.ret (.bop .mod (.sub (.sub (.loc 0) (.int 0)) (.loc 2)) (.loc 1))] [],
    .setitem (.loc 0) (.int 2) (.bop .mod (.bop .add (.bop .mul (.sub (.loc 0) (.int 2)) (.int 69069)) (.int 1327217885)) (.int 4294967296)),
    .ret (.bop .mod (.bop .fdiv (.sub (.loc 0) (.int 2)) (.int 4096)) (.loc 1))]
/-- 38 _law_leaf ['hand', 'sort', 'worth', 'name'] -/
noncomputable def b38 : List S := [
    .asg 1 (.call 37 [(.loc 0), (.int 4)]),
    .ife (.cmp (.loc 1) .eq (.int 0)) [.asg 3 (.sub (.tup [(.str [97]), (.str [98]), (.str [99, 57]), (.str [95, 120, 46, 49, 36]), (.str [76])]) (.call 37 [(.loc 0), (.int 5)])), .ret (.tup [(.tup [(.str [115, 121, 109, 98, 111, 108]), (.loc 3)]), (.mk 5 [(.loc 3)])])] [],
    .ife (.cmp (.loc 1) .eq (.int 1)) [.ret (.tup [(.tup [(.str [104, 101, 114, 101])]), (.mk 6 [])])] [],
    .asg 2 (.ite (.cmp (.loc 1) .eq (.int 2)) (.call 37 [(.loc 0), (.int 10)]) (.bop .sub (.int 18446744073709551615) (.call 37 [(.loc 0), (.bop .shl (.int 1) (.int 63))]))),
    .ret (.tup [(.tup [(.str [110, 117, 109, 98, 101, 114]), (.loc 2)]), (.mk 4 [(.loc 2)])])]
/-- 39 _law_tree ['hand', 'leaves', 'ahead', 'signs', 'sign', 'one', 'left', 'other', 'right', 'told', 'body'] -/
noncomputable def b39 : List S := [
    .ife (.and [(.cmp (.sub (.loc 0) (.int 3)) .lt (.int 3)), (.cmp (.call 37 [(.loc 0), (.int 6)]) .eq (.int 1))]) [.setitem (.loc 0) (.int 3) (.bop .add (.sub (.loc 0) (.int 3)) (.int 1)), .asg 4 (.sub (.str [45, 126, 33]) (.call 37 [(.loc 0), (.int 3)])), .asg2 9 10 (.call 39 [(.loc 0), (.loc 1)]), .ret (.tup [(.tup [(.str [117, 110, 97, 114, 121]), (.loc 4), (.loc 9)]), (.mk 7 [(.loc 4), (.loc 10)])])] [],
    .ife (.cmp (.loc 1) .eq (.int 1)) [.ret (.call 38 [(.loc 0)])] [],
    .asg 2 (.bop .add (.int 1) (.call 37 [(.loc 0), (.bop .sub (.loc 1) (.int 1))])),
    .asg 3 (.sub (.tup [(.glob 3), (.glob 4), (.glob 5)]) (.call 37 [(.loc 0), (.int 3)])),
    .asg 4 (.sub (.loc 3) (.call 37 [(.loc 0), (.bi .len [(.loc 3)])])),
    .asg2 5 6 (.call 39 [(.loc 0), (.loc 2)]),
    .asg2 7 8 (.call 39 [(.loc 0), (.bop .sub (.loc 1) (.loc 2))]),
    .ret (.tup [(.tup [(.str [98, 105, 110, 97, 114, 121]), (.loc 4), (.loc 5), (.loc 7)]), (.mk 8 [(.loc 4), (.loc 6), (.loc 8)])])]
/-- 40 _law_level ['told'] -/
noncomputable def b40 : List S := [
    .ife (.cmp (.sub (.loc 0) (.int 0)) .ne (.str [98, 105, 110, 97, 114, 121])) [.ret (.int 4)] [],
    .ret (.ite (.cmp (.sub (.loc 0) (.int 1)) .isin (.glob 3)) (.int 1) (.ite (.cmp (.sub (.loc 0) (.int 1)) .isin (.glob 4)) (.int 2) (.int 3)))]
/-- 41 _law_text ['told', 'close', 'own', 'text'] -/
noncomputable def b41 : List S := [
    .ife (.cmp (.sub (.loc 0) (.int 0)) .eq (.str [110, 117, 109, 98, 101, 114])) [.ret (.bi .str [(.sub (.loc 0) (.int 1))])] [],
    .ife (.cmp (.sub (.loc 0) (.int 0)) .eq (.str [115, 121, 109, 98, 111, 108])) [.ret (.sub (.loc 0) (.int 1))] [],
    .ife (.cmp (.sub (.loc 0) (.int 0)) .eq (.str [104, 101, 114, 101])) [.ret (.str [46])] [],
    .ife (.cmp (.sub (.loc 0) (.int 0)) .eq (.str [117, 110, 97, 114, 121])) [.ret (.bop .add (.sub (.loc 0) (.int 1)) (.call 41 [(.sub (.loc 0) (.int 2)), (.int 4)]))] [],
    .asg 2 (.call 40 [(.loc 0)]),
    .asg 3 (.bop .add (.bop .add (.bop .add (.bop .add (.call 41 [(.sub (.loc 0) (.int 2)), (.loc 2)]) (.str [32])) (.sub (.loc 0) (.int 1))) (.str [32])) (.call 41 [(.sub (.loc 0) (.int 3)), (.bop .add (.loc 2) (.int 1))])),
    .ret (.ite (.cmp (.loc 2) .lt (.loc 1)) (.bop .add (.bop .add (.str [40]) (.loc 3)) (.str [41])) (.loc 3))]
/-- 42 _law_heard ['text'] -/
noncomputable def b42 : List S := [
    .tryr [.ret (.meth (.call 33 [(.loc 0)]) 25 [])] [110, 111, 110, 101]]
/-- 43 _law_without ['text', 'at', 'open_ones', 'here'] -/
noncomputable def b43 : List S := [
    .asg 2 (.int 0),
    .forr 3 (.bi .range [(.loc 1), (.bi .len [(.loc 0)])]) [.ife (.cmp (.sub (.loc 0) (.loc 3)) .eq (.str [40])) [.asg 2 (.bop .add (.loc 2) (.int 1))] [], .ife (.cmp (.sub (.loc 0) (.loc 3)) .eq (.str [41])) [.asg 2 (.bop .sub (.loc 2) (.int 1))] [], .ife (.cmp (.loc 2) .eq (.int 0)) [.ret (.bop .add (.bop .add (.slTo (.loc 0) (.loc 1)) (.sl2 (.loc 0) (.bop .add (.loc 1) (.int 1)) (.loc 3))) (.slFrom (.loc 0) (.bop .add (.loc 3) (.int 1))))] []],
    .ret (.loc 0)]
/-- 44 law ['script', 'hand', 'text', 'spaced', 'at', 'told', 'node'] -/
noncomputable def b44 : List S := [
    .asg 1 (.lst [(.intcomp (.slTo (.loc 0) (.int 50))), (.int 0), (.bop .add (.int 11) (.bop .mod (.bi .sum [(.slTo (.loc 0) (.int 50))]) (.int 65521))), (.int 0)]),
    .asg2 5 6 (.call 39 [(.loc 1), (.bop .add (.int 1) (.call 37 [(.loc 1), (.int 7)]))]),
    .asg 2 (.call 41 [(.loc 5), (.int 1)]),
    .ife (.or [(.cmp (.meth (.loc 6) 25 []) .ne (.loc 5)), (.cmp (.call 36 [(.loc 6)]) .ne (.loc 2)), (.cmp (.call 42 [(.loc 2)]) .ne (.loc 5))]) [.ret (.bool false)] [],
    .asg 3 (.bop .add (.spaced 2) (.str [32, 35, 32, 40, 114, 101, 115, 116])),
    .ife (.or [(.cmp (.call 42 [(.loc 3)]) .ne (.loc 5)), (.cmp (.call 42 [(.bop .add (.bop .add (.str [40]) (.loc 2)) (.str [41]))]) .ne (.loc 5))]) [.ret (.bool false)] [],
    .forr 4 (.bi .range [(.bi .len [(.loc 2)])]) [.ife (.and [(.cmp (.sub (.loc 2) (.loc 4)) .eq (.str [40])), (.cmp (.call 42 [(.call 43 [(.loc 2), (.loc 4)])]) .eq (.loc 5))]) [.ret (.bool false)] [], .ife (.and [(.cmp (.sub (.loc 2) (.loc 4)) .eq (.str [46])), (.cmp (.sl2 (.loc 2) (.bop .sub (.loc 4) (.int 1)) (.loc 4)) .isin (.tup [(.str []), (.str [32]), (.str [40]), (.str [45]), (.str [126]), (.str [33])])), (.cmp (.call 42 [(.bop .add (.bop .add (.slTo (.loc 2) (.loc 4)) (.str [40, 46, 41])) (.slFrom (.loc 2) (.bop .add (.loc 4) (.int 1))))]) .ne (.loc 5))]) [.ret (.bool false)] []],
    .ret (.and [(.cmp (.call 42 [(.bop .add (.loc 2) (.str [32, 41]))]) .eq (.tup [(.str [110, 111, 110, 101])])), (.cmp (.call 42 [(.bop .add (.str [40]) (.loc 2))]) .eq (.tup [(.str [110, 111, 110, 101])])), (.cmp (.call 42 [(.bop .add (.loc 2) (.str [32, 42]))]) .eq (.tup [(.str [110, 111, 110, 101])]))])]
noncomputable def fnTab : Nat → Option Fn
  | 0 => some ⟨1, 2, b0⟩
  | 1 => some ⟨1, 2, b1⟩
  | 2 => some ⟨1, 1, b2⟩
  | 3 => some ⟨1, 2, b3⟩
  | 4 => some ⟨1, 6, b4⟩
  | 5 => some ⟨2, 2, b5⟩
  | 6 => some ⟨2, 2, b6⟩
  | 7 => some ⟨1, 1, b7⟩
  | 8 => some ⟨2, 3, b8⟩
  | 9 => some ⟨2, 3, b9⟩
  | 10 => some ⟨1, 4, b10⟩
  | 11 => some ⟨1, 4, b11⟩
  | 12 => some ⟨1, 4, b12⟩
  | 13 => some ⟨2, 4, b13⟩
  | 14 => some ⟨1, 1, b14⟩
  | 15 => some ⟨1, 2, b15⟩
  | 16 => some ⟨2, 2, b16⟩
  | 17 => some ⟨1, 1, b17⟩
  | 18 => some ⟨2, 2, b18⟩
  | 19 => some ⟨2, 2, b19⟩
  | 20 => some ⟨1, 1, b20⟩
  | 21 => some ⟨1, 1, b21⟩
  | 22 => some ⟨1, 1, b22⟩
  | 23 => some ⟨1, 1, b23⟩
  | 24 => some ⟨1, 1, b24⟩
  | 25 => some ⟨1, 1, b25⟩
  | 26 => some ⟨1, 5, b26⟩
  | 27 => some ⟨1, 3, b27⟩
  | 28 => some ⟨1, 1, b28⟩
  | 29 => some ⟨1, 1, b29⟩
  | 30 => some ⟨2, 4, b30⟩
  | 31 => some ⟨3, 6, b31⟩
  | 32 => some ⟨1, 1, b32⟩
  | 33 => some ⟨1, 3, b33⟩
  | 34 => some ⟨2, 2, b34⟩
  | 35 => some ⟨1, 1, b35⟩
  | 36 => some ⟨1, 7, b36⟩
  | 37 => some ⟨2, 3, b37⟩
  | 38 => some ⟨1, 4, b38⟩
  | 39 => some ⟨2, 11, b39⟩
  | 40 => some ⟨1, 1, b40⟩
  | 41 => some ⟨2, 4, b41⟩
  | 42 => some ⟨1, 1, b42⟩
  | 43 => some ⟨2, 4, b43⟩
  | 44 => some ⟨1, 7, b44⟩
  | _ => none
noncomputable def fnLocs : Nat → List (List Nat)
  | 0 => [[115, 105, 103, 110], [99, 111, 100, 101]]
  | 1 => [[115, 105, 103, 110], [99, 111, 100, 101]]
  | 2 => [[115, 105, 103, 110]]
  | 3 => [[115, 105, 103, 110], [99, 111, 100, 101]]
  | 4 => [[119, 111, 114, 100], [98, 97, 115, 101], [98, 101, 103, 105, 110], [119, 111, 114, 116, 104], [115, 105, 103, 110], [102, 105, 103, 117, 114, 101]]
  | 5 => [[115, 101, 108, 102], [116, 101, 120, 116]]
  | 6 => [[115, 101, 108, 102], [97, 116]]
  | 7 => [[115, 101, 108, 102]]
  | 8 => [[115, 101, 108, 102], [101, 110, 100], [98, 101, 103, 105, 110]]
  | 9 => [[115, 101, 108, 102], [97, 116], [104, 101, 114, 101]]
  | 10 => [[115, 101, 108, 102], [97, 116], [119, 111, 114, 100], [119, 111, 114, 116, 104]]
  | 11 => [[115, 101, 108, 102], [97, 116], [112, 97, 105, 114], [119, 111, 114, 100]]
  | 12 => [[115, 101, 108, 102], [115, 105, 103, 110], [97, 116], [119, 111, 114, 100]]
  | 13 => [[116, 101, 120, 116], [108, 105, 110, 101], [114, 101, 97, 100, 101, 114], [102, 111, 117, 110, 100]]
  | 14 => [[115, 101, 108, 102]]
  | 15 => [[115, 101, 108, 102], [116, 111, 107, 101, 110]]
  | 16 => [[115, 101, 108, 102], [116, 101, 120, 116]]
  | 17 => [[115, 101, 108, 102]]
  | 18 => [[115, 101, 108, 102], [116, 101, 120, 116]]
  | 19 => [[115, 101, 108, 102], [116, 101, 120, 116]]
  | 20 => [[115, 101, 108, 102]]
  | 21 => [[115, 101, 108, 102]]
  | 22 => [[115, 101, 108, 102]]
  | 23 => [[115, 101, 108, 102]]
  | 24 => [[115, 101, 108, 102]]
  | 25 => [[115, 101, 108, 102]]
  | 26 => [[115, 101, 108, 102], [119, 111, 114, 116, 104], [112, 97, 114, 116], [105, 110, 110, 101, 114], [115, 112, 105, 110, 101]]
  | 27 => [[110, 111, 100, 101], [115, 112, 105, 110, 101], [105, 110, 110, 101, 114]]
  | 28 => [[115, 105, 103, 110]]
  | 29 => [[116, 111, 107, 101, 110]]
  | 30 => [[99, 117, 114, 115, 111, 114], [100, 101, 112, 116, 104], [116, 111, 107, 101, 110], [105, 110, 110, 101, 114]]
  | 31 => [[99, 117, 114, 115, 111, 114], [108, 101, 97, 115, 116], [100, 101, 112, 116, 104], [108, 101, 102, 116], [108, 101, 118, 101, 108], [115, 105, 103, 110]]
  | 32 => [[99, 117, 114, 115, 111, 114]]
  | 33 => [[116, 101, 120, 116], [99, 117, 114, 115, 111, 114], [110, 111, 100, 101]]
  | 34 => [[110, 111, 100, 101], [108, 101, 97, 115, 116]]
  | 35 => [[110, 111, 100, 101]]
  | 36 => [[110, 111, 100, 101], [116, 101, 120, 116], [108, 101, 118, 101, 108], [112, 97, 114, 116], [105, 110, 110, 101, 114], [115, 112, 105, 110, 101], [111, 119, 110]]
  | 37 => [[104, 97, 110, 100], [109, 97, 110, 121], [97, 116]]
  | 38 => [[104, 97, 110, 100], [115, 111, 114, 116], [119, 111, 114, 116, 104], [110, 97, 109, 101]]
  | 39 => [[104, 97, 110, 100], [108, 101, 97, 118, 101, 115], [97, 104, 101, 97, 100], [115, 105, 103, 110, 115], [115, 105, 103, 110], [111, 110, 101], [108, 101, 102, 116], [111, 116, 104, 101, 114], [114, 105, 103, 104, 116], [116, 111, 108, 100], [98, 111, 100, 121]]
  | 40 => [[116, 111, 108, 100]]
  | 41 => [[116, 111, 108, 100], [99, 108, 111, 115, 101], [111, 119, 110], [116, 101, 120, 116]]
  | 42 => [[116, 101, 120, 116]]
  | 43 => [[116, 101, 120, 116], [97, 116], [111, 112, 101, 110, 95, 111, 110, 101, 115], [104, 101, 114, 101]]
  | 44 => [[115, 99, 114, 105, 112, 116], [104, 97, 110, 100], [116, 101, 120, 116], [115, 112, 97, 99, 101, 100], [97, 116], [116, 111, 108, 100], [110, 111, 100, 101]]
  | _ => []
-- names: 0 kind, 1 text, 2 line, 3 at, 4 place, 5 name_end, 6 passed, 7 number, 8 constant, 9 quote, 10 register, 11 mark, 12 is_done, 13 token, 14 append, 15 tokens, 16 is_sign, 17 skip, 18 rest_place, 19 is_end, 20 peek, 21 worth, 22 name, 23 sign, 24 body, 25 told, 26 right, 27 left, 28 reverse, 29 take, 30 need, 31 need_end, 32 replace, 33 column
noncomputable def nmTab : Nat → List Nat
  | 0 => [107, 105, 110, 100]
  | 1 => [116, 101, 120, 116]
  | 2 => [108, 105, 110, 101]
  | 3 => [97, 116]
  | 4 => [112, 108, 97, 99, 101]
  | 5 => [110, 97, 109, 101, 95, 101, 110, 100]
  | 6 => [112, 97, 115, 115, 101, 100]
  | 7 => [110, 117, 109, 98, 101, 114]
  | 8 => [99, 111, 110, 115, 116, 97, 110, 116]
  | 9 => [113, 117, 111, 116, 101]
  | 10 => [114, 101, 103, 105, 115, 116, 101, 114]
  | 11 => [109, 97, 114, 107]
  | 12 => [105, 115, 95, 100, 111, 110, 101]
  | 13 => [116, 111, 107, 101, 110]
  | 14 => [97, 112, 112, 101, 110, 100]
  | 15 => [116, 111, 107, 101, 110, 115]
  | 16 => [105, 115, 95, 115, 105, 103, 110]
  | 17 => [115, 107, 105, 112]
  | 18 => [114, 101, 115, 116, 95, 112, 108, 97, 99, 101]
  | 19 => [105, 115, 95, 101, 110, 100]
  | 20 => [112, 101, 101, 107]
  | 21 => [119, 111, 114, 116, 104]
  | 22 => [110, 97, 109, 101]
  | 23 => [115, 105, 103, 110]
  | 24 => [98, 111, 100, 121]
  | 25 => [116, 111, 108, 100]
  | 26 => [114, 105, 103, 104, 116]
  | 27 => [108, 101, 102, 116]
  | 28 => [114, 101, 118, 101, 114, 115, 101]
  | 29 => [116, 97, 107, 101]
  | 30 => [110, 101, 101, 100]
  | 31 => [110, 101, 101, 100, 95, 101, 110, 100]
  | 32 => [114, 101, 112, 108, 97, 99, 101]
  | 33 => [99, 111, 108, 117, 109, 110]
  | _ => []
noncomputable def methTab : Nat → Nat → Option Nat
  | 1, 16 => some 5
  | 2, 4 => some 6
  | 2, 12 => some 7
  | 2, 6 => some 8
  | 2, 5 => some 9
  | 2, 7 => some 10
  | 2, 11 => some 11
  | 2, 13 => some 12
  | 3, 20 => some 14
  | 3, 29 => some 15
  | 3, 16 => some 16
  | 3, 19 => some 17
  | 3, 17 => some 18
  | 3, 30 => some 19
  | 3, 31 => some 20
  | 3, 18 => some 21
  | 4, 25 => some 23
  | 5, 25 => some 24
  | 7, 25 => some 25
  | 8, 25 => some 26
  | 6, 25 => some 22
  | _, _ => none
-- classes: 0 Place, 1 Token, 2 LineReader, 3 Cursor, 4 Number, 5 Symbol, 6 Here, 7 Unary, 8 Binary, 9 Expr, 10 ReadError
-- globals: 0 SIGNS, 1 TOP, 2 MOST_DEPTH, 3 _law_LOW, 4 _law_MIDDLE, 5 _law_HIGH
-- fns: 0 digit_of, 1 is_letter, 2 begins_name, 3 is_name_sign, 4 number_worth, 5 Token_is_sign, 6 LineReader_place, 7 LineReader_is_done, 8 LineReader_passed, 9 LineReader_name_end, 10 LineReader_number, 11 LineReader_mark, 12 LineReader_token, 13 line_tokens, 14 Cursor_peek, 15 Cursor_take, 16 Cursor_is_sign, 17 Cursor_is_end, 18 Cursor_skip, 19 Cursor_need, 20 Cursor_need_end, 21 Cursor_rest_place, 22 Expr_told, 23 Number_told, 24 Symbol_told, 25 Unary_told, 26 Binary_told, 27 left_spine, 28 level_of, 29 binary_level, 30 read_part, 31 read_level, 32 read_expr, 33 expr_of, 34 bracketed, 35 show_leaf, 36 show_expr, 37 _law_next, 38 _law_leaf, 39 _law_tree, 40 _law_level, 41 _law_text, 42 _law_heard, 43 _law_without, 44 law
noncomputable def fnName : Nat → Option (List Nat)
  | 0 => some [100, 105, 103, 105, 116, 95, 111, 102]
  | 1 => some [105, 115, 95, 108, 101, 116, 116, 101, 114]
  | 2 => some [98, 101, 103, 105, 110, 115, 95, 110, 97, 109, 101]
  | 3 => some [105, 115, 95, 110, 97, 109, 101, 95, 115, 105, 103, 110]
  | 4 => some [110, 117, 109, 98, 101, 114, 95, 119, 111, 114, 116, 104]
  | 13 => some [108, 105, 110, 101, 95, 116, 111, 107, 101, 110, 115]
  | 27 => some [108, 101, 102, 116, 95, 115, 112, 105, 110, 101]
  | 28 => some [108, 101, 118, 101, 108, 95, 111, 102]
  | 29 => some [98, 105, 110, 97, 114, 121, 95, 108, 101, 118, 101, 108]
  | 30 => some [114, 101, 97, 100, 95, 112, 97, 114, 116]
  | 31 => some [114, 101, 97, 100, 95, 108, 101, 118, 101, 108]
  | 32 => some [114, 101, 97, 100, 95, 101, 120, 112, 114]
  | 33 => some [101, 120, 112, 114, 95, 111, 102]
  | 34 => some [98, 114, 97, 99, 107, 101, 116, 101, 100]
  | 35 => some [115, 104, 111, 119, 95, 108, 101, 97, 102]
  | 36 => some [115, 104, 111, 119, 95, 101, 120, 112, 114]
  | 37 => some [95, 108, 97, 119, 95, 110, 101, 120, 116]
  | 38 => some [95, 108, 97, 119, 95, 108, 101, 97, 102]
  | 39 => some [95, 108, 97, 119, 95, 116, 114, 101, 101]
  | 40 => some [95, 108, 97, 119, 95, 108, 101, 118, 101, 108]
  | 41 => some [95, 108, 97, 119, 95, 116, 101, 120, 116]
  | 42 => some [95, 108, 97, 119, 95, 104, 101, 97, 114, 100]
  | 43 => some [95, 108, 97, 119, 95, 119, 105, 116, 104, 111, 117, 116]
  | 44 => some [108, 97, 119]
  | _ => none
noncomputable def clsName : Nat → Option (List Nat)
  | 0 => some [80, 108, 97, 99, 101]
  | 1 => some [84, 111, 107, 101, 110]
  | 2 => some [76, 105, 110, 101, 82, 101, 97, 100, 101, 114]
  | 3 => some [67, 117, 114, 115, 111, 114]
  | 4 => some [78, 117, 109, 98, 101, 114]
  | 5 => some [83, 121, 109, 98, 111, 108]
  | 6 => some [72, 101, 114, 101]
  | 7 => some [85, 110, 97, 114, 121]
  | 8 => some [66, 105, 110, 97, 114, 121]
  | _ => none
noncomputable def globName : Nat → Option (List Nat)
  | 0 => some [83, 73, 71, 78, 83]
  | 1 => some [84, 79, 80]
  | 2 => some [77, 79, 83, 84, 95, 68, 69, 80, 84, 72]
  | 3 => some [95, 108, 97, 119, 95, 76, 79, 87]
  | 4 => some [95, 108, 97, 119, 95, 77, 73, 68, 68, 76, 69]
  | 5 => some [95, 108, 97, 119, 95, 72, 73, 71, 72]
  | _ => none
noncomputable def biName : Bi → List Nat
  | .ord => [111, 114, 100]
  | .len => [108, 101, 110]
  | .str => [115, 116, 114]
  | .range => [114, 97, 110, 103, 101]
  | .toInt => [105, 110, 116]
  | .sum => [115, 117, 109]
inductive Ini where
  | par (k : Nat) | int (i : Int) | str (l : List Nat)
noncomputable def initTab : Nat → Option (Nat × List (Nat × Ini))
  | 0 => some (3, [(2, .par 1), (33, .par 2)])
  | 1 => some (5, [(0, .par 1), (1, .par 2), (21, .par 3), (3, .par 4)])
  | 2 => some (3, [(1, .par 1), (2, .par 2), (3, .int 0)])
  | 3 => some (2, [(15, .par 1), (3, .int 0)])
  | 4 => some (2, [(0, .str [110, 117, 109, 98, 101, 114]), (21, .par 1)])
  | 5 => some (2, [(0, .str [115, 121, 109, 98, 111, 108]), (22, .par 1)])
  | 6 => some (1, [(0, .str [104, 101, 114, 101])])
  | 7 => some (3, [(0, .str [117, 110, 97, 114, 121]), (23, .par 1), (24, .par 2)])
  | 8 => some (4, [(0, .str [98, 105, 110, 97, 114, 121]), (23, .par 1), (27, .par 2), (26, .par 3)])
  | _ => none

/-- what a class's own __init__ lays, of the arguments beside self -/
noncomputable def iniV (as : List PV) : Ini → Option PV
  | .par k => as[k - 1]?
  | .int i => some (.int i)
  | .str l => some (.str l)
noncomputable def setF (a : Nat) (v : PV) : List (Nat × PV) → List (Nat × PV)
  | [] => [(a, v)]
  | (b, w) :: r => if a == b then (b, v) :: r else (b, w) :: setF a v r
noncomputable def mkFs (as : List PV) : List (Nat × Ini) → List (Nat × PV) → Option (List (Nat × PV))
  | [], acc => some acc
  | (a, s) :: r, acc => match iniV as s with
    | some v => mkFs as r (setF a v acc)
    | none => none
noncomputable def mkFields (c : Nat) (as : List PV) : Option (List (Nat × PV)) := match initTab c with
  | some (n, l) => if as.length + 1 = n then mkFs as l [] else none
  | none => none
noncomputable def changes : Nat → Bool
  | 2 => true
  | 3 => true
  | _ => false

noncomputable def globTab : Nat → Option PV
  | 0 => some (.str [43, 45, 42, 47, 37, 38, 124, 94, 126, 33, 40, 41, 91, 93, 44, 58, 36, 61, 60, 62])
  | 1 => some (.int 18446744073709551615)
  | 2 => some (.int 10)
  | 3 => some (.tup [.str [45], .str [43]])
  | 4 => some (.tup [.str [124], .str [38], .str [94]])
  | 5 => some (.tup [.str [42], .str [47], .str [37], .str [60, 60], .str [62, 62]])
  | _ => none

-- data alone: what == compares here
noncomputable def okD : Nat → PV → Bool
  | _, .str l => l.all fun c => decide (c < 1114112)
  | _, .int _ => true
  | n + 1, .tup l => l.all (okD n)
  | _, _ => false
noncomputable def eqL (f : PV → PV → Bool) : List PV → List PV → Bool
  | [], [] => true
  | x :: r, y :: q => f x y && eqL f r q
  | _, _ => false
noncomputable def eqB : Nat → PV → PV → Bool
  | _, .str a, .str b => a == b
  | _, .int a, .int b => a == b
  | n + 1, .tup a, .tup b => eqL (eqB n) a b
  | _, _, _ => false

noncomputable def inTup (x : List Nat) : List PV → Option Bool
  | [] => some false
  | .str y :: r => (inTup x r).map fun b => (x == y) || b
  | _ => none

noncomputable def asInt : PV → Option Int
  | .int i => some i
  | _ => none
noncomputable def asStr : PV → Option (List Nat)
  | .str l => some l
  | _ => none
noncomputable def asTup : PV → Option (List PV)
  | .tup l => some l
  | _ => none
noncomputable def asOne : List Nat → Option Nat
  | [c] => some c
  | _ => none
noncomputable def int2 {α : Type} (f : Int → Int → Option α) (p q : PV) : Option α := (asInt p).bind fun a => (asInt q).bind (f a)
noncomputable def addV (p q : PV) : Option PV := match p with
  | .int a => (asInt q).map fun b => .int (a + b)
  | .str a => (asStr q).bind fun b => if a.length + b.length ≤ 65536 then some (.str (a ++ b)) else none
  | _ => none
noncomputable def bopV : Bop → PV → PV → Option PV
  | .add => addV
  | .sub => int2 fun a b => some (.int (a - b))
  | .mul => int2 fun a b => if 0 ≤ b ∧ b < 1073741824 then some (.int (a * b)) else none
  | .mod => int2 fun a b => if 0 < b then some (.int (a % b)) else none
  | .fdiv => int2 fun a b => if 0 < b ∧ b < 1073741824 then some (.int (a / b)) else none
  | .shl => int2 fun a b => if a = 1 ∧ b = 63 then some (.int 9223372036854775808) else none
noncomputable def eqV (p q : PV) : Option Bool := match p with
  | .str a => (asStr q).map fun b => a == b
  | .int a => (asInt q).map fun b => a == b
  | .tup a => (asTup q).bind fun b => if okD 60 (.tup a) && okD 60 (.tup b) then some (eqB 60 (.tup a) (.tup b)) else none
  | _ => none
noncomputable def inV (p q : PV) : Option Bool := (asStr p).bind fun x => (asTup q).bind (inTup x)
noncomputable def notinV (p q : PV) : Option Bool := ((asStr p).bind asOne).bind fun c => (asStr q).map fun l => !l.contains c
noncomputable def cmpV : Cop → PV → PV → Option Bool
  | .lt => int2 fun a b => some (decide (a < b))
  | .le => int2 fun a b => some (decide (a ≤ b))
  | .gt => int2 fun a b => some (decide (b < a))
  | .ge => int2 fun a b => some (decide (b ≤ a))
  | .eq => eqV
  | .ne => fun a b => (eqV a b).map fun q => !q
  | .isin => inV
  | .notin => notinV

noncomputable def intsOf : List PV → Option (List Int)
  | [] => some []
  | .int i :: r => (intsOf r).map (i :: ·)
  | _ => none

noncomputable def rngL (a b : Int) : List PV := (List.range (b - a).toNat).map fun (k : Nat) => .int (a + (k : Int))

noncomputable def cl (i : Int) (n : Nat) : Nat := if i < 0 then (i + n).toNat else min i.toNat n
noncomputable def cut {α : Type} (l : List α) (a b : Nat) : List α := (l.take b).drop a

noncomputable def replL (c : Nat) (r : List Nat) : List Nat → List Nat
  | [] => []
  | x :: l => if x == c then r ++ replL c r l else x :: replL c r l

inductive Flow where
  | next | ret (v : PV)
inductive Src where
  | vals (l : List PV)
  | lst (i k : Nat)
inductive Cfg where
  | e (x : E) (ρ : Loc) (σ : Store)
  | es (l : List E) (ρ : Loc) (σ : Store)
  | bools (isAnd : Bool) (l : List E) (ρ : Loc) (σ : Store)
  | s (x : S) (ρ : Loc) (σ : Store)
  | ss (l : List S) (ρ : Loc) (σ : Store)
  | whl (t : E) (b : List S) (ρ : Loc) (σ : Store)
  | fr (x : Nat) (src : Src) (b : List S) (ρ : Loc) (σ : Store)
  | call (f : Nat) (as : List PV) (σ : Store)
inductive Out where
  | v (v : PV) (σ : Store)
  | vs (l : List PV) (σ : Store)
  | fl (f : Flow) (ρ : Loc) (σ : Store)
  | exc (σ : Store)

noncomputable def srcNext (σ : Store) : Src → Option (Option (PV × Src))
  | .vals [] => some none
  | .vals (v :: r) => some (some (v, .vals r))
  | .lst i k => match σ[i]? with
    | some (.lst l) => some ((l[k]?).map fun v => (v, .lst i (k + 1)))
    | _ => none

noncomputable def attrV (σ : Store) : PV → Nat → Option PV
  | .inst _ fs, a => fs.lookup a
  | .ref i, a => match σ[i]? with
    | some (.inst _ fs) => fs.lookup a
    | _ => none
  | _, _ => none
noncomputable def setattrV (σ : Store) : PV → Nat → PV → Option Store
  | .ref i, a, v => match σ[i]? with
    | some (.inst c fs) => if (fs.lookup a).isSome then some (σ.set i (.inst c (setF a v fs))) else none
    | _ => none
  | _, _, _ => none
noncomputable def setitemV (σ : Store) : PV → PV → PV → Option Store
  | .ref i, .int k, v => match σ[i]? with
    | some (.lst l) => if 0 ≤ k ∧ k < 1073741824 ∧ k < l.length then some (σ.set i (.lst (l.set k.toNat v))) else none
    | _ => none
  | _, _, _ => none
/-- the items of a list -/
noncomputable def lstAt (σ : Store) : PV → Option (List PV)
  | .ref i => match σ[i]? with
    | some (.lst l) => some l
    | _ => none
  | .lis l => some l
  | _ => none
noncomputable def subV (σ : Store) : PV → PV → Option PV
  | .str l, .int k => if 0 ≤ k ∧ k < 1073741824 then (l[k.toNat]?).map fun c => .str [c] else none
  | .tup l, .int k => if 0 ≤ k ∧ k < 1073741824 then l[k.toNat]? else none
  | p, .int k => match lstAt σ p with
    | some l => if 0 ≤ k ∧ k < 1073741824 then l[k.toNat]? else none
    | none => none
  | _, _ => none
noncomputable def oneV (f : PV → Option PV) : List PV → Option PV
  | [p] => f p
  | _ => none
noncomputable def lenOf (σ : Store) (p : PV) : Option Nat := match p with
  | .str l => some l.length
  | .tup l => some l.length
  | p => (lstAt σ p).map List.length
noncomputable def biV (σ : Store) : Bi → List PV → Option PV
  | .ord => oneV fun p => ((asStr p).bind asOne).map fun (c : Nat) => PV.int (c : Int)
  | .len => oneV fun p => (lenOf σ p).bind fun n => if n ≤ 65536 then some (.int n) else none
  | .str => oneV fun p => (asInt p).bind fun i => if 0 ≤ i ∧ i < 18446744073709551616 then some (.str ((toString i).toList.map Char.toNat)) else none
  | .range => fun ps => match ps with
    | [p] => (asInt p).bind fun b => if 0 ≤ b ∧ b < 65536 then some (.rng 0 b) else none
    | [p, q] => int2 (fun a b => if 0 ≤ a ∧ a < 65536 ∧ 0 ≤ b ∧ b < 65536 then some (.rng a b) else none) p q
    | _ => none
  | .toInt => fun _ => none
  | .sum => oneV fun p => (lstAt σ p).bind fun l => (intsOf l).map fun x => .int x.sum
noncomputable def srcOf (σ : Store) : PV → Option Src
  | .rng a b => if 0 ≤ a ∧ a < 65536 ∧ 0 ≤ b ∧ b < 65536 then some (.vals (rngL a b)) else none
  | .str l => some (.vals (l.map fun c => .str [c]))
  | .ref i => match σ[i]? with
    | some (.lst _) => some (.lst i 0)
    | _ => none
  | _ => none
noncomputable def locAt (ρ : Loc) (i : Nat) : Option PV := (ρ[i]?).join
inductive MK where
  | call (f : Nat)
  | app (i : Nat)
  | rev (i : Nat)
noncomputable def methK (σ : Store) : PV → Nat → Option MK
  | .inst c _, m => (methTab c m).map .call
  | .ref i, m => match σ[i]? with
    | some (.inst c _) => (methTab c m).map .call
    | some (.lst _) => if m = 14 then some (.app i) else if m = 28 then some (.rev i) else none
    | none => none
  | _, _ => none
noncomputable def lstOp (σ : Store) : MK → List PV → Option Store
  | .app i, [x] => match σ[i]? with
    | some (.lst l) => if l.length ≤ 65536 then some (σ.set i (.lst (l ++ [x]))) else none
    | _ => none
  | .rev i, [] => match σ[i]? with
    | some (.lst l) => if l.length ≤ 65536 then some (σ.set i (.lst l.reverse)) else none
    | _ => none
  | _, _ => none
noncomputable def mkV (c : Nat) (as : List PV) (σ : Store) : Option Out := match mkFields c as with
  | some fs => if changes c then some (.v (.ref σ.length) (σ ++ [.inst c fs])) else some (.v (.inst c fs) σ)
  | none => none

/-! the rules, each as what a relation may be closed by -/
noncomputable def Ru.ev_e_bool (M : Nat → Cfg → Out → Prop) : Prop := ∀ {d : Nat} {ρ : Loc} {σ : Store} {b : Bool}, M d (.e (.bool b) ρ σ) (.v (.bool b) σ)
noncomputable def Ru.ev_e_int (M : Nat → Cfg → Out → Prop) : Prop := ∀ {d : Nat} {ρ : Loc} {σ : Store} {i : Int}, M d (.e (.int i) ρ σ) (.v (.int i) σ)
noncomputable def Ru.ev_e_str (M : Nat → Cfg → Out → Prop) : Prop := ∀ {d : Nat} {ρ : Loc} {σ : Store} {l : List Nat}, M d (.e (.str l) ρ σ) (.v (.str l) σ)
noncomputable def Ru.is_loc (M : Nat → Cfg → Out → Prop) : Prop := ∀ {d : Nat} {ρ : Loc} {σ : Store} {i : Nat} {v : PV} (h : locAt ρ i = some v), M d (.e (.loc i) ρ σ) (.v v σ)
noncomputable def Ru.is_glob (M : Nat → Cfg → Out → Prop) : Prop := ∀ {d : Nat} {ρ : Loc} {σ : Store} {i : Nat} {v : PV} (h : globTab i = some v), M d (.e (.glob i) ρ σ) (.v v σ)
noncomputable def Ru.is_bop (M : Nat → Cfg → Out → Prop) : Prop := ∀ {d : Nat} {ρ : Loc} {σ : Store} {o : Bop} {x y : E} {p q v : PV} {σ' σ'' : Store} (h1 : M d (.e x ρ σ) (.v p σ')) (h2 : M d (.e y ρ σ') (.v q σ'')) (h3 : bopV o p q = some v), M d (.e (.bop o x y) ρ σ) (.v v σ'')
noncomputable def Ru.is_cmp (M : Nat → Cfg → Out → Prop) : Prop := ∀ {d : Nat} {ρ : Loc} {σ : Store} {o : Cop} {x y : E} {p q : PV} {b : Bool} {σ' σ'' : Store} (h1 : M d (.e x ρ σ) (.v p σ')) (h2 : M d (.e y ρ σ') (.v q σ'')) (h3 : cmpV o p q = some b), M d (.e (.cmp x o y) ρ σ) (.v (.bool b) σ'')
noncomputable def Ru.is_cmp2f (M : Nat → Cfg → Out → Prop) : Prop := ∀ {d : Nat} {ρ : Loc} {σ : Store} {o o' : Cop} {x y z : E} {p q : PV} {σ' σ'' : Store} (h1 : M d (.e x ρ σ) (.v p σ')) (h2 : M d (.e y ρ σ') (.v q σ'')) (h3 : cmpV o p q = some false), M d (.e (.cmp2 x o y o' z) ρ σ) (.v (.bool false) σ'')
noncomputable def Ru.is_cmp2t (M : Nat → Cfg → Out → Prop) : Prop := ∀ {d : Nat} {ρ : Loc} {σ : Store} {o o' : Cop} {x y z : E} {p q u : PV} {b : Bool} {σ' σ'' σ₃ : Store} (h1 : M d (.e x ρ σ) (.v p σ')) (h2 : M d (.e y ρ σ') (.v q σ'')) (h3 : cmpV o p q = some true) (h4 : M d (.e z ρ σ'') (.v u σ₃)) (h5 : cmpV o' q u = some b), M d (.e (.cmp2 x o y o' z) ρ σ) (.v (.bool b) σ₃)
noncomputable def Ru.ev_e_and (M : Nat → Cfg → Out → Prop) : Prop := ∀ {d : Nat} {ρ : Loc} {σ : Store} {l : List E} {r : Out} (h : M d (.bools true l ρ σ) r), M d (.e (.and l) ρ σ) r
noncomputable def Ru.ev_e_or (M : Nat → Cfg → Out → Prop) : Prop := ∀ {d : Nat} {ρ : Loc} {σ : Store} {l : List E} {r : Out} (h : M d (.bools false l ρ σ) r), M d (.e (.or l) ρ σ) r
noncomputable def Ru.is_not (M : Nat → Cfg → Out → Prop) : Prop := ∀ {d : Nat} {ρ : Loc} {σ : Store} {x : E} {b : Bool} {σ' : Store} (h1 : M d (.e x ρ σ) (.v (.bool b) σ')), M d (.e (.not x) ρ σ) (.v (.bool (!b)) σ')
noncomputable def Ru.is_ite (M : Nat → Cfg → Out → Prop) : Prop := ∀ {d : Nat} {ρ : Loc} {σ : Store} {t x y : E} {b : Bool} {v : PV} {σ' σ'' : Store} (h1 : M d (.e t ρ σ) (.v (.bool b) σ')) (h2 : M d (.e (if b then x else y) ρ σ') (.v v σ'')), M d (.e (.ite t x y) ρ σ) (.v v σ'')
noncomputable def Ru.is_call (M : Nat → Cfg → Out → Prop) : Prop := ∀ {d : Nat} {ρ : Loc} {σ : Store} {f : Nat} {as : List E} {ps : List PV} {σ' : Store} {r : Out} (h : M d (.es as ρ σ) (.vs ps σ')) (h2 : M d (.call f ps σ') r), M d (.e (.call f as) ρ σ) r
noncomputable def Ru.is_mk (M : Nat → Cfg → Out → Prop) : Prop := ∀ {d : Nat} {ρ : Loc} {σ : Store} {k : Nat} {as : List E} {ps : List PV} {v : PV} {σ' σ'' : Store} (h : M d (.es as ρ σ) (.vs ps σ')) (h2 : mkV k ps σ' = some (.v v σ'')), M d (.e (.mk k as) ρ σ) (.v v σ'')
noncomputable def Ru.is_mkx (M : Nat → Cfg → Out → Prop) : Prop := ∀ {d : Nat} {ρ : Loc} {σ : Store} {k : Nat} {as : List E} {σ' : Store} (h : M d (.es as ρ σ) (.exc σ')), M d (.e (.mk k as) ρ σ) (.exc σ')
noncomputable def Ru.is_bi (M : Nat → Cfg → Out → Prop) : Prop := ∀ {d : Nat} {ρ : Loc} {σ : Store} {b : Bi} {as : List E} {ps : List PV} {v : PV} {σ' : Store} (h : M d (.es as ρ σ) (.vs ps σ')) (h2 : biV σ' b ps = some v), M d (.e (.bi b as) ρ σ) (.v v σ')
noncomputable def Ru.is_meth (M : Nat → Cfg → Out → Prop) : Prop := ∀ {d : Nat} {ρ : Loc} {σ : Store} {o : E} {m f : Nat} {as : List E} {p : PV} {ps : List PV} {σ' σ'' : Store} {r : Out} (h : M d (.e o ρ σ) (.v p σ')) (hm : methK σ' p m = some (.call f)) (h2 : M d (.es as ρ σ') (.vs ps σ'')) (h3 : M d (.call f (p :: ps) σ'') r), M d (.e (.meth o m as) ρ σ) r
noncomputable def Ru.is_app (M : Nat → Cfg → Out → Prop) : Prop := ∀ {d : Nat} {ρ : Loc} {σ : Store} {o : E} {m i : Nat} {as : List E} {p : PV} {ps : List PV} {σ' σ'' σ₃ : Store} (h : M d (.e o ρ σ) (.v p σ')) (hm : methK σ' p m = some (.app i)) (h2 : M d (.es as ρ σ') (.vs ps σ'')) (h3 : lstOp σ'' (.app i) ps = some σ₃), M d (.e (.meth o m as) ρ σ) (.v .none σ₃)
noncomputable def Ru.is_rev (M : Nat → Cfg → Out → Prop) : Prop := ∀ {d : Nat} {ρ : Loc} {σ : Store} {o : E} {m i : Nat} {as : List E} {p : PV} {ps : List PV} {σ' σ'' σ₃ : Store} (h : M d (.e o ρ σ) (.v p σ')) (hm : methK σ' p m = some (.rev i)) (h2 : M d (.es as ρ σ') (.vs ps σ'')) (h3 : lstOp σ'' (.rev i) ps = some σ₃), M d (.e (.meth o m as) ρ σ) (.v .none σ₃)
noncomputable def Ru.is_methx (M : Nat → Cfg → Out → Prop) : Prop := ∀ {d : Nat} {ρ : Loc} {σ : Store} {o : E} {m : Nat} {as : List E} {σ' : Store} (h : M d (.e o ρ σ) (.exc σ')), M d (.e (.meth o m as) ρ σ) (.exc σ')
noncomputable def Ru.is_attr (M : Nat → Cfg → Out → Prop) : Prop := ∀ {d : Nat} {ρ : Loc} {σ : Store} {x : E} {f : Nat} {p v : PV} {σ' : Store} (h1 : M d (.e x ρ σ) (.v p σ')) (h3 : attrV σ' p f = some v), M d (.e (.attr x f) ρ σ) (.v v σ')
noncomputable def Ru.is_spaced (M : Nat → Cfg → Out → Prop) : Prop := ∀ {d : Nat} {ρ : Loc} {σ : Store} {i : Nat} {t : List Nat} (h : locAt ρ i = some (.str t)) (hz : t.length ≤ 4096), M d (.e (.spaced i) ρ σ) (.v (.str ([32, 32] ++ replL 41 [32, 41] (replL 40 [40, 32] (replL 32 [32, 9, 32] t)))) σ)
noncomputable def Ru.is_sub (M : Nat → Cfg → Out → Prop) : Prop := ∀ {d : Nat} {ρ : Loc} {σ : Store} {x y : E} {p q v : PV} {σ' σ'' : Store} (h1 : M d (.e x ρ σ) (.v p σ')) (h2 : M d (.e y ρ σ') (.v q σ'')) (h3 : subV σ'' p q = some v), M d (.e (.sub x y) ρ σ) (.v v σ'')
noncomputable def Ru.is_sl2 (M : Nat → Cfg → Out → Prop) : Prop := ∀ {d : Nat} {ρ : Loc} {σ : Store} {o x y : E} {t : List Nat} {i j : Int} {σ₁ σ₂ σ₃ : Store} (h1 : M d (.e o ρ σ) (.v (.str t) σ₁)) (h2 : M d (.e x ρ σ₁) (.v (.int i) σ₂)) (h3 : M d (.e y ρ σ₂) (.v (.int j) σ₃)) (hz : t.length ≤ 65536), M d (.e (.sl2 o x y) ρ σ) (.v (.str (cut t (cl i t.length) (cl j t.length))) σ₃)
noncomputable def Ru.is_slFrom (M : Nat → Cfg → Out → Prop) : Prop := ∀ {d : Nat} {ρ : Loc} {σ : Store} {o x : E} {t : List Nat} {i : Int} {σ₁ σ₂ : Store} (h1 : M d (.e o ρ σ) (.v (.str t) σ₁)) (h2 : M d (.e x ρ σ₁) (.v (.int i) σ₂)) (hz : t.length ≤ 65536), M d (.e (.slFrom o x) ρ σ) (.v (.str (t.drop (cl i t.length))) σ₂)
noncomputable def Ru.is_slTo (M : Nat → Cfg → Out → Prop) : Prop := ∀ {d : Nat} {ρ : Loc} {σ : Store} {o x : E} {t : List Nat} {i : Int} {σ₁ σ₂ : Store} (h1 : M d (.e o ρ σ) (.v (.str t) σ₁)) (h2 : M d (.e x ρ σ₁) (.v (.int i) σ₂)) (hz : t.length ≤ 65536), M d (.e (.slTo o x) ρ σ) (.v (.str (t.take (cl i t.length))) σ₂)
noncomputable def Ru.is_slToL (M : Nat → Cfg → Out → Prop) : Prop := ∀ {d : Nat} {ρ : Loc} {σ : Store} {o x : E} {p : PV} {t : List PV} {i : Int} {σ₁ σ₂ : Store} (h1 : M d (.e o ρ σ) (.v p σ₁)) (h2 : M d (.e x ρ σ₁) (.v (.int i) σ₂)) (e : lstAt σ₂ p = some t) (hz : t.length ≤ 65536) (h0 : 0 ≤ i), M d (.e (.slTo o x) ρ σ) (.v (.ref σ₂.length) (σ₂ ++ [.lst (t.take i.toNat)]))
noncomputable def Ru.is_tup (M : Nat → Cfg → Out → Prop) : Prop := ∀ {d : Nat} {ρ : Loc} {σ : Store} {l : List E} {ps : List PV} {σ' : Store} (h : M d (.es l ρ σ) (.vs ps σ')) (hz : ps.length ≤ 64), M d (.e (.tup l) ρ σ) (.v (.tup ps) σ')
noncomputable def Ru.is_lst (M : Nat → Cfg → Out → Prop) : Prop := ∀ {d : Nat} {ρ : Loc} {σ : Store} {l : List E} {ps : List PV} {σ' : Store} (h : M d (.es l ρ σ) (.vs ps σ')) (hz : ps.length ≤ 64), M d (.e (.lst l) ρ σ) (.v (.ref σ'.length) (σ' ++ [.lst ps]))
noncomputable def Ru.is_intcomp (M : Nat → Cfg → Out → Prop) : Prop := ∀ {d : Nat} {ρ : Loc} {σ : Store} {x : E} {p : PV} {t : List PV} {l : List Int} {σ' : Store} (h1 : M d (.e x ρ σ) (.v p σ')) (e : lstAt σ' p = some t) (hz : t.length ≤ 65536) (h3 : intsOf t = some l), M d (.e (.intcomp x) ρ σ) (.v (.lis (l.map .int)) σ')
noncomputable def Ru.ev_es_nil (M : Nat → Cfg → Out → Prop) : Prop := ∀ {d : Nat} {ρ : Loc} {σ : Store}, M d (.es [] ρ σ) (.vs [] σ)
noncomputable def Ru.es_c (M : Nat → Cfg → Out → Prop) : Prop := ∀ {d : Nat} {ρ : Loc} {σ : Store} {x : E} {r : List E} {p : PV} {ps : List PV} {σ' σ'' : Store} (h1 : M d (.e x ρ σ) (.v p σ')) (h2 : M d (.es r ρ σ') (.vs ps σ'')), M d (.es (x :: r) ρ σ) (.vs (p :: ps) σ'')
noncomputable def Ru.es_x1 (M : Nat → Cfg → Out → Prop) : Prop := ∀ {d : Nat} {ρ : Loc} {σ : Store} {x : E} {r : List E} {σ' : Store} (h1 : M d (.e x ρ σ) (.exc σ')), M d (.es (x :: r) ρ σ) (.exc σ')
noncomputable def Ru.es_x2 (M : Nat → Cfg → Out → Prop) : Prop := ∀ {d : Nat} {ρ : Loc} {σ : Store} {x : E} {r : List E} {p : PV} {σ' σ'' : Store} (h1 : M d (.e x ρ σ) (.v p σ')) (h2 : M d (.es r ρ σ') (.exc σ'')), M d (.es (x :: r) ρ σ) (.exc σ'')
noncomputable def Ru.bools_one (M : Nat → Cfg → Out → Prop) : Prop := ∀ {d : Nat} {ρ : Loc} {σ : Store} {k : Bool} {x : E} {p : Bool} {σ' : Store} (h1 : M d (.e x ρ σ) (.v (.bool p) σ')), M d (.bools k [x] ρ σ) (.v (.bool p) σ')
noncomputable def Ru.bools_t (M : Nat → Cfg → Out → Prop) : Prop := ∀ {d : Nat} {ρ : Loc} {σ : Store} {k : Bool} {x y : E} {r : List E} {σ' : Store} {o : Out} (h : M d (.e x ρ σ) (.v (.bool k) σ')) (h2 : M d (.bools k (y :: r) ρ σ') o), M d (.bools k (x :: y :: r) ρ σ) o
noncomputable def Ru.bools_f (M : Nat → Cfg → Out → Prop) : Prop := ∀ {d : Nat} {ρ : Loc} {σ : Store} {k : Bool} {x y : E} {r : List E} {σ' : Store} (h : M d (.e x ρ σ) (.v (.bool (!k)) σ')), M d (.bools k (x :: y :: r) ρ σ) (.v (.bool (!k)) σ')
noncomputable def Ru.do_asg (M : Nat → Cfg → Out → Prop) : Prop := ∀ {d : Nat} {ρ : Loc} {σ : Store} {i : Nat} {a : E} {v : PV} {σ' : Store} (h : M d (.e a ρ σ) (.v v σ')), M d (.s (.asg i a) ρ σ) (.fl .next (ρ.set i (some v)) σ')
noncomputable def Ru.do_asgx (M : Nat → Cfg → Out → Prop) : Prop := ∀ {d : Nat} {ρ : Loc} {σ : Store} {i : Nat} {a : E} {σ' : Store} (h : M d (.e a ρ σ) (.exc σ')), M d (.s (.asg i a) ρ σ) (.exc σ')
noncomputable def Ru.do_asg2 (M : Nat → Cfg → Out → Prop) : Prop := ∀ {d : Nat} {ρ : Loc} {σ : Store} {i j : Nat} {a : E} {v u : PV} {σ' : Store} (h : M d (.e a ρ σ) (.v (.tup [v, u]) σ')), M d (.s (.asg2 i j a) ρ σ) (.fl .next ((ρ.set i (some v)).set j (some u)) σ')
noncomputable def Ru.do_setattr (M : Nat → Cfg → Out → Prop) : Prop := ∀ {d : Nat} {ρ : Loc} {σ : Store} {o : E} {f : Nat} {a : E} {v p : PV} {σ' σ'' σ₃ : Store} (h : M d (.e a ρ σ) (.v v σ')) (h2 : M d (.e o ρ σ') (.v p σ'')) (h3 : setattrV σ'' p f v = some σ₃), M d (.s (.setattr o f a) ρ σ) (.fl .next ρ σ₃)
noncomputable def Ru.do_setitem (M : Nat → Cfg → Out → Prop) : Prop := ∀ {d : Nat} {ρ : Loc} {σ : Store} {o i : E} {a : E} {v p q : PV} {σ' σ'' σ₃ σ₄ : Store} (h : M d (.e a ρ σ) (.v v σ')) (h2 : M d (.e o ρ σ') (.v p σ'')) (h3 : M d (.e i ρ σ'') (.v q σ₃)) (h4 : setitemV σ₃ p q v = some σ₄), M d (.s (.setitem o i a) ρ σ) (.fl .next ρ σ₄)
noncomputable def Ru.do_expr (M : Nat → Cfg → Out → Prop) : Prop := ∀ {d : Nat} {ρ : Loc} {σ : Store} {a : E} {v : PV} {σ' : Store} (h : M d (.e a ρ σ) (.v v σ')), M d (.s (.expr a) ρ σ) (.fl .next ρ σ')
noncomputable def Ru.do_exprx (M : Nat → Cfg → Out → Prop) : Prop := ∀ {d : Nat} {ρ : Loc} {σ : Store} {a : E} {σ' : Store} (h : M d (.e a ρ σ) (.exc σ')), M d (.s (.expr a) ρ σ) (.exc σ')
noncomputable def Ru.do_ife (M : Nat → Cfg → Out → Prop) : Prop := ∀ {d : Nat} {ρ : Loc} {σ : Store} {t : E} {a c : List S} {b : Bool} {σ' : Store} {r : Out} (h : M d (.e t ρ σ) (.v (.bool b) σ')) (h2 : M d (.ss (if b then a else c) ρ σ') r), M d (.s (.ife t a c) ρ σ) r
noncomputable def Ru.do_whl (M : Nat → Cfg → Out → Prop) : Prop := ∀ {d : Nat} {ρ : Loc} {σ : Store} {t : E} {b : List S} {r : Out} (h : M d (.whl t b ρ σ) r), M d (.s (.whl t b) ρ σ) r
noncomputable def Ru.do_forr (M : Nat → Cfg → Out → Prop) : Prop := ∀ {d : Nat} {ρ : Loc} {σ : Store} {i : Nat} {it : E} {b : List S} {v : PV} {src : Src} {σ' : Store} {r : Out} (h : M d (.e it ρ σ) (.v v σ')) (h2 : srcOf σ' v = some src) (h3 : M d (.fr i src b ρ σ') r), M d (.s (.forr i it b) ρ σ) r
noncomputable def Ru.do_ret (M : Nat → Cfg → Out → Prop) : Prop := ∀ {d : Nat} {ρ : Loc} {σ : Store} {a : E} {v : PV} {σ' : Store} (h : M d (.e a ρ σ) (.v v σ')), M d (.s (.ret a) ρ σ) (.fl (.ret v) ρ σ')
noncomputable def Ru.do_retx (M : Nat → Cfg → Out → Prop) : Prop := ∀ {d : Nat} {ρ : Loc} {σ : Store} {a : E} {σ' : Store} (h : M d (.e a ρ σ) (.exc σ')), M d (.s (.ret a) ρ σ) (.exc σ')
noncomputable def Ru.do_raise (M : Nat → Cfg → Out → Prop) : Prop := ∀ {d : Nat} {ρ : Loc} {σ : Store} {a b : E} {t : List Nat} {fs : List (Nat × PV)} {σ' σ'' : Store} (h : M d (.e a ρ σ) (.v (.str t) σ')) (h2 : M d (.e b ρ σ') (.v (.inst 0 fs) σ'')), M d (.s (.raise a b) ρ σ) (.exc σ'')
noncomputable def Ru.do_tryx (M : Nat → Cfg → Out → Prop) : Prop := ∀ {d : Nat} {ρ : Loc} {σ : Store} {b : List S} {l : List Nat} {σ' : Store} (h : M d (.ss b ρ σ) (.exc σ')), M d (.s (.tryr b l) ρ σ) (.fl (.ret (.tup [.str l])) ρ σ')
noncomputable def Ru.do_tryr (M : Nat → Cfg → Out → Prop) : Prop := ∀ {d : Nat} {ρ : Loc} {σ : Store} {b : List S} {l : List Nat} {f : Flow} {ρ' : Loc} {σ' : Store} (h : M d (.ss b ρ σ) (.fl f ρ' σ')), M d (.s (.tryr b l) ρ σ) (.fl f ρ' σ')
noncomputable def Ru.ev_ss_nil (M : Nat → Cfg → Out → Prop) : Prop := ∀ {d : Nat} {ρ : Loc} {σ : Store}, M d (.ss [] ρ σ) (.fl .next ρ σ)
noncomputable def Ru.ss_next (M : Nat → Cfg → Out → Prop) : Prop := ∀ {d : Nat} {ρ : Loc} {σ : Store} {x : S} {r : List S} {ρ' : Loc} {σ' : Store} {o : Out} (h : M d (.s x ρ σ) (.fl .next ρ' σ')) (h2 : M d (.ss r ρ' σ') o), M d (.ss (x :: r) ρ σ) o
noncomputable def Ru.ss_retd (M : Nat → Cfg → Out → Prop) : Prop := ∀ {d : Nat} {ρ : Loc} {σ : Store} {x : S} {r : List S} {ρ' : Loc} {σ' : Store} {v : PV} (h : M d (.s x ρ σ) (.fl (.ret v) ρ' σ')), M d (.ss (x :: r) ρ σ) (.fl (.ret v) ρ' σ')
noncomputable def Ru.ss_excd (M : Nat → Cfg → Out → Prop) : Prop := ∀ {d : Nat} {ρ : Loc} {σ : Store} {x : S} {r : List S} {σ' : Store} (h : M d (.s x ρ σ) (.exc σ')), M d (.ss (x :: r) ρ σ) (.exc σ')
noncomputable def Ru.whl_end (M : Nat → Cfg → Out → Prop) : Prop := ∀ {d : Nat} {ρ : Loc} {σ : Store} {t : E} {b : List S} {σ' : Store} (h : M d (.e t ρ σ) (.v (.bool false) σ')), M d (.whl t b ρ σ) (.fl .next ρ σ')
noncomputable def Ru.whl_turn (M : Nat → Cfg → Out → Prop) : Prop := ∀ {d : Nat} {ρ : Loc} {σ : Store} {t : E} {b : List S} {ρ' : Loc} {σ' σ'' : Store} {o : Out} (h : M d (.e t ρ σ) (.v (.bool true) σ')) (h2 : M d (.ss b ρ σ') (.fl .next ρ' σ'')) (h3 : M d (.whl t b ρ' σ'') o), M d (.whl t b ρ σ) o
noncomputable def Ru.whl_exc (M : Nat → Cfg → Out → Prop) : Prop := ∀ {d : Nat} {ρ : Loc} {σ : Store} {t : E} {b : List S} {σ' σ'' : Store} (h : M d (.e t ρ σ) (.v (.bool true) σ')) (h2 : M d (.ss b ρ σ') (.exc σ'')), M d (.whl t b ρ σ) (.exc σ'')
noncomputable def Ru.fr_end (M : Nat → Cfg → Out → Prop) : Prop := ∀ {d : Nat} {ρ : Loc} {σ : Store} {i : Nat} {src : Src} {b : List S} (e : srcNext σ src = some none), M d (.fr i src b ρ σ) (.fl .next ρ σ)
noncomputable def Ru.fr_turn (M : Nat → Cfg → Out → Prop) : Prop := ∀ {d : Nat} {ρ : Loc} {σ : Store} {i : Nat} {src src' : Src} {b : List S} {v : PV} {ρ' : Loc} {σ' : Store} {o : Out} (e : srcNext σ src = some (some (v, src'))) (h : M d (.ss b (ρ.set i (some v)) σ) (.fl .next ρ' σ')) (h2 : M d (.fr i src' b ρ' σ') o), M d (.fr i src b ρ σ) o
noncomputable def Ru.fr_retd (M : Nat → Cfg → Out → Prop) : Prop := ∀ {d : Nat} {ρ : Loc} {σ : Store} {i : Nat} {src src' : Src} {b : List S} {v u : PV} {ρ' : Loc} {σ' : Store} (e : srcNext σ src = some (some (v, src'))) (h : M d (.ss b (ρ.set i (some v)) σ) (.fl (.ret u) ρ' σ')), M d (.fr i src b ρ σ) (.fl (.ret u) ρ' σ')
noncomputable def Ru.do_call (M : Nat → Cfg → Out → Prop) : Prop := ∀ {d : Nat} {σ : Store} {f : Nat} {as : List PV} {fn : Fn} {v : PV} {ρ' : Loc} {σ' : Store} (h : fnTab f = some fn) (hn : as.length = fn.np) (hb : M d (.ss fn.body (as.map some ++ List.replicate (fn.nl - fn.np) none) σ) (.fl (.ret v) ρ' σ')), M (d + 1) (.call f as σ) (.v v σ')
noncomputable def Ru.do_calln (M : Nat → Cfg → Out → Prop) : Prop := ∀ {d : Nat} {σ : Store} {f : Nat} {as : List PV} {fn : Fn} {ρ' : Loc} {σ' : Store} (h : fnTab f = some fn) (hn : as.length = fn.np) (hb : M d (.ss fn.body (as.map some ++ List.replicate (fn.nl - fn.np) none) σ) (.fl .next ρ' σ')), M (d + 1) (.call f as σ) (.v .none σ')
noncomputable def Ru.do_callx (M : Nat → Cfg → Out → Prop) : Prop := ∀ {d : Nat} {σ : Store} {f : Nat} {as : List PV} {fn : Fn} {σ' : Store} (h : fnTab f = some fn) (hn : as.length = fn.np) (hb : M d (.ss fn.body (as.map some ++ List.replicate (fn.nl - fn.np) none) σ) (.exc σ')), M (d + 1) (.call f as σ) (.exc σ')
/-- a relation that every rule closes -/
structure Cl (M : Nat → Cfg → Out → Prop) : Prop where
  ev_e_bool : Ru.ev_e_bool M
  ev_e_int : Ru.ev_e_int M
  ev_e_str : Ru.ev_e_str M
  is_loc : Ru.is_loc M
  is_glob : Ru.is_glob M
  is_bop : Ru.is_bop M
  is_cmp : Ru.is_cmp M
  is_cmp2f : Ru.is_cmp2f M
  is_cmp2t : Ru.is_cmp2t M
  ev_e_and : Ru.ev_e_and M
  ev_e_or : Ru.ev_e_or M
  is_not : Ru.is_not M
  is_ite : Ru.is_ite M
  is_call : Ru.is_call M
  is_mk : Ru.is_mk M
  is_mkx : Ru.is_mkx M
  is_bi : Ru.is_bi M
  is_meth : Ru.is_meth M
  is_app : Ru.is_app M
  is_rev : Ru.is_rev M
  is_methx : Ru.is_methx M
  is_attr : Ru.is_attr M
  is_spaced : Ru.is_spaced M
  is_sub : Ru.is_sub M
  is_sl2 : Ru.is_sl2 M
  is_slFrom : Ru.is_slFrom M
  is_slTo : Ru.is_slTo M
  is_slToL : Ru.is_slToL M
  is_tup : Ru.is_tup M
  is_lst : Ru.is_lst M
  is_intcomp : Ru.is_intcomp M
  ev_es_nil : Ru.ev_es_nil M
  es_c : Ru.es_c M
  es_x1 : Ru.es_x1 M
  es_x2 : Ru.es_x2 M
  bools_one : Ru.bools_one M
  bools_t : Ru.bools_t M
  bools_f : Ru.bools_f M
  do_asg : Ru.do_asg M
  do_asgx : Ru.do_asgx M
  do_asg2 : Ru.do_asg2 M
  do_setattr : Ru.do_setattr M
  do_setitem : Ru.do_setitem M
  do_expr : Ru.do_expr M
  do_exprx : Ru.do_exprx M
  do_ife : Ru.do_ife M
  do_whl : Ru.do_whl M
  do_forr : Ru.do_forr M
  do_ret : Ru.do_ret M
  do_retx : Ru.do_retx M
  do_raise : Ru.do_raise M
  do_tryx : Ru.do_tryx M
  do_tryr : Ru.do_tryr M
  ev_ss_nil : Ru.ev_ss_nil M
  ss_next : Ru.ss_next M
  ss_retd : Ru.ss_retd M
  ss_excd : Ru.ss_excd M
  whl_end : Ru.whl_end M
  whl_turn : Ru.whl_turn M
  whl_exc : Ru.whl_exc M
  fr_end : Ru.fr_end M
  fr_turn : Ru.fr_turn M
  fr_retd : Ru.fr_retd M
  do_call : Ru.do_call M
  do_calln : Ru.do_calln M
  do_callx : Ru.do_callx M
/-- what a call, an expression or a body answers: the least relation that the rules close -/
structure ev (d : Nat) (c : Cfg) (r : Out) : Prop where
  on : ∀ M : Nat → Cfg → Out → Prop, Cl M → M d c r
theorem ev_e_bool {d : Nat} {ρ : Loc} {σ : Store} {b : Bool} : ev d (.e (.bool b) ρ σ) (.v (.bool b) σ) := ⟨fun M C => C.ev_e_bool⟩
theorem ev_e_int {d : Nat} {ρ : Loc} {σ : Store} {i : Int} : ev d (.e (.int i) ρ σ) (.v (.int i) σ) := ⟨fun M C => C.ev_e_int⟩
theorem ev_e_str {d : Nat} {ρ : Loc} {σ : Store} {l : List Nat} : ev d (.e (.str l) ρ σ) (.v (.str l) σ) := ⟨fun M C => C.ev_e_str⟩
theorem is_loc {d : Nat} {ρ : Loc} {σ : Store} {i : Nat} {v : PV} (h : locAt ρ i = some v) : ev d (.e (.loc i) ρ σ) (.v v σ) := ⟨fun M C => C.is_loc h⟩
theorem is_glob {d : Nat} {ρ : Loc} {σ : Store} {i : Nat} {v : PV} (h : globTab i = some v) : ev d (.e (.glob i) ρ σ) (.v v σ) := ⟨fun M C => C.is_glob h⟩
theorem is_bop {d : Nat} {ρ : Loc} {σ : Store} {o : Bop} {x y : E} {p q v : PV} {σ' σ'' : Store} (h1 : ev d (.e x ρ σ) (.v p σ')) (h2 : ev d (.e y ρ σ') (.v q σ'')) (h3 : bopV o p q = some v) : ev d (.e (.bop o x y) ρ σ) (.v v σ'') := ⟨fun M C => C.is_bop (h1.on M C) (h2.on M C) h3⟩
theorem is_cmp {d : Nat} {ρ : Loc} {σ : Store} {o : Cop} {x y : E} {p q : PV} {b : Bool} {σ' σ'' : Store} (h1 : ev d (.e x ρ σ) (.v p σ')) (h2 : ev d (.e y ρ σ') (.v q σ'')) (h3 : cmpV o p q = some b) : ev d (.e (.cmp x o y) ρ σ) (.v (.bool b) σ'') := ⟨fun M C => C.is_cmp (h1.on M C) (h2.on M C) h3⟩
theorem is_cmp2f {d : Nat} {ρ : Loc} {σ : Store} {o o' : Cop} {x y z : E} {p q : PV} {σ' σ'' : Store} (h1 : ev d (.e x ρ σ) (.v p σ')) (h2 : ev d (.e y ρ σ') (.v q σ'')) (h3 : cmpV o p q = some false) : ev d (.e (.cmp2 x o y o' z) ρ σ) (.v (.bool false) σ'') := ⟨fun M C => C.is_cmp2f (h1.on M C) (h2.on M C) h3⟩
theorem is_cmp2t {d : Nat} {ρ : Loc} {σ : Store} {o o' : Cop} {x y z : E} {p q u : PV} {b : Bool} {σ' σ'' σ₃ : Store} (h1 : ev d (.e x ρ σ) (.v p σ')) (h2 : ev d (.e y ρ σ') (.v q σ'')) (h3 : cmpV o p q = some true) (h4 : ev d (.e z ρ σ'') (.v u σ₃)) (h5 : cmpV o' q u = some b) : ev d (.e (.cmp2 x o y o' z) ρ σ) (.v (.bool b) σ₃) := ⟨fun M C => C.is_cmp2t (h1.on M C) (h2.on M C) h3 (h4.on M C) h5⟩
theorem ev_e_and {d : Nat} {ρ : Loc} {σ : Store} {l : List E} {r : Out} (h : ev d (.bools true l ρ σ) r) : ev d (.e (.and l) ρ σ) r := ⟨fun M C => C.ev_e_and (h.on M C)⟩
theorem ev_e_or {d : Nat} {ρ : Loc} {σ : Store} {l : List E} {r : Out} (h : ev d (.bools false l ρ σ) r) : ev d (.e (.or l) ρ σ) r := ⟨fun M C => C.ev_e_or (h.on M C)⟩
theorem is_not {d : Nat} {ρ : Loc} {σ : Store} {x : E} {b : Bool} {σ' : Store} (h1 : ev d (.e x ρ σ) (.v (.bool b) σ')) : ev d (.e (.not x) ρ σ) (.v (.bool (!b)) σ') := ⟨fun M C => C.is_not (h1.on M C)⟩
theorem is_ite {d : Nat} {ρ : Loc} {σ : Store} {t x y : E} {b : Bool} {v : PV} {σ' σ'' : Store} (h1 : ev d (.e t ρ σ) (.v (.bool b) σ')) (h2 : ev d (.e (if b then x else y) ρ σ') (.v v σ'')) : ev d (.e (.ite t x y) ρ σ) (.v v σ'') := ⟨fun M C => C.is_ite (h1.on M C) (h2.on M C)⟩
theorem is_call {d : Nat} {ρ : Loc} {σ : Store} {f : Nat} {as : List E} {ps : List PV} {σ' : Store} {r : Out} (h : ev d (.es as ρ σ) (.vs ps σ')) (h2 : ev d (.call f ps σ') r) : ev d (.e (.call f as) ρ σ) r := ⟨fun M C => C.is_call (h.on M C) (h2.on M C)⟩
theorem is_mk {d : Nat} {ρ : Loc} {σ : Store} {k : Nat} {as : List E} {ps : List PV} {v : PV} {σ' σ'' : Store} (h : ev d (.es as ρ σ) (.vs ps σ')) (h2 : mkV k ps σ' = some (.v v σ'')) : ev d (.e (.mk k as) ρ σ) (.v v σ'') := ⟨fun M C => C.is_mk (h.on M C) h2⟩
theorem is_mkx {d : Nat} {ρ : Loc} {σ : Store} {k : Nat} {as : List E} {σ' : Store} (h : ev d (.es as ρ σ) (.exc σ')) : ev d (.e (.mk k as) ρ σ) (.exc σ') := ⟨fun M C => C.is_mkx (h.on M C)⟩
theorem is_bi {d : Nat} {ρ : Loc} {σ : Store} {b : Bi} {as : List E} {ps : List PV} {v : PV} {σ' : Store} (h : ev d (.es as ρ σ) (.vs ps σ')) (h2 : biV σ' b ps = some v) : ev d (.e (.bi b as) ρ σ) (.v v σ') := ⟨fun M C => C.is_bi (h.on M C) h2⟩
theorem is_meth {d : Nat} {ρ : Loc} {σ : Store} {o : E} {m f : Nat} {as : List E} {p : PV} {ps : List PV} {σ' σ'' : Store} {r : Out} (h : ev d (.e o ρ σ) (.v p σ')) (hm : methK σ' p m = some (.call f)) (h2 : ev d (.es as ρ σ') (.vs ps σ'')) (h3 : ev d (.call f (p :: ps) σ'') r) : ev d (.e (.meth o m as) ρ σ) r := ⟨fun M C => C.is_meth (h.on M C) hm (h2.on M C) (h3.on M C)⟩
theorem is_app {d : Nat} {ρ : Loc} {σ : Store} {o : E} {m i : Nat} {as : List E} {p : PV} {ps : List PV} {σ' σ'' σ₃ : Store} (h : ev d (.e o ρ σ) (.v p σ')) (hm : methK σ' p m = some (.app i)) (h2 : ev d (.es as ρ σ') (.vs ps σ'')) (h3 : lstOp σ'' (.app i) ps = some σ₃) : ev d (.e (.meth o m as) ρ σ) (.v .none σ₃) := ⟨fun M C => C.is_app (h.on M C) hm (h2.on M C) h3⟩
theorem is_rev {d : Nat} {ρ : Loc} {σ : Store} {o : E} {m i : Nat} {as : List E} {p : PV} {ps : List PV} {σ' σ'' σ₃ : Store} (h : ev d (.e o ρ σ) (.v p σ')) (hm : methK σ' p m = some (.rev i)) (h2 : ev d (.es as ρ σ') (.vs ps σ'')) (h3 : lstOp σ'' (.rev i) ps = some σ₃) : ev d (.e (.meth o m as) ρ σ) (.v .none σ₃) := ⟨fun M C => C.is_rev (h.on M C) hm (h2.on M C) h3⟩
theorem is_methx {d : Nat} {ρ : Loc} {σ : Store} {o : E} {m : Nat} {as : List E} {σ' : Store} (h : ev d (.e o ρ σ) (.exc σ')) : ev d (.e (.meth o m as) ρ σ) (.exc σ') := ⟨fun M C => C.is_methx (h.on M C)⟩
theorem is_attr {d : Nat} {ρ : Loc} {σ : Store} {x : E} {f : Nat} {p v : PV} {σ' : Store} (h1 : ev d (.e x ρ σ) (.v p σ')) (h3 : attrV σ' p f = some v) : ev d (.e (.attr x f) ρ σ) (.v v σ') := ⟨fun M C => C.is_attr (h1.on M C) h3⟩
theorem is_spaced {d : Nat} {ρ : Loc} {σ : Store} {i : Nat} {t : List Nat} (h : locAt ρ i = some (.str t)) (hz : t.length ≤ 4096) : ev d (.e (.spaced i) ρ σ) (.v (.str ([32, 32] ++ replL 41 [32, 41] (replL 40 [40, 32] (replL 32 [32, 9, 32] t)))) σ) := ⟨fun M C => C.is_spaced h hz⟩
theorem is_sub {d : Nat} {ρ : Loc} {σ : Store} {x y : E} {p q v : PV} {σ' σ'' : Store} (h1 : ev d (.e x ρ σ) (.v p σ')) (h2 : ev d (.e y ρ σ') (.v q σ'')) (h3 : subV σ'' p q = some v) : ev d (.e (.sub x y) ρ σ) (.v v σ'') := ⟨fun M C => C.is_sub (h1.on M C) (h2.on M C) h3⟩
theorem is_sl2 {d : Nat} {ρ : Loc} {σ : Store} {o x y : E} {t : List Nat} {i j : Int} {σ₁ σ₂ σ₃ : Store} (h1 : ev d (.e o ρ σ) (.v (.str t) σ₁)) (h2 : ev d (.e x ρ σ₁) (.v (.int i) σ₂)) (h3 : ev d (.e y ρ σ₂) (.v (.int j) σ₃)) (hz : t.length ≤ 65536) : ev d (.e (.sl2 o x y) ρ σ) (.v (.str (cut t (cl i t.length) (cl j t.length))) σ₃) := ⟨fun M C => C.is_sl2 (h1.on M C) (h2.on M C) (h3.on M C) hz⟩
theorem is_slFrom {d : Nat} {ρ : Loc} {σ : Store} {o x : E} {t : List Nat} {i : Int} {σ₁ σ₂ : Store} (h1 : ev d (.e o ρ σ) (.v (.str t) σ₁)) (h2 : ev d (.e x ρ σ₁) (.v (.int i) σ₂)) (hz : t.length ≤ 65536) : ev d (.e (.slFrom o x) ρ σ) (.v (.str (t.drop (cl i t.length))) σ₂) := ⟨fun M C => C.is_slFrom (h1.on M C) (h2.on M C) hz⟩
theorem is_slTo {d : Nat} {ρ : Loc} {σ : Store} {o x : E} {t : List Nat} {i : Int} {σ₁ σ₂ : Store} (h1 : ev d (.e o ρ σ) (.v (.str t) σ₁)) (h2 : ev d (.e x ρ σ₁) (.v (.int i) σ₂)) (hz : t.length ≤ 65536) : ev d (.e (.slTo o x) ρ σ) (.v (.str (t.take (cl i t.length))) σ₂) := ⟨fun M C => C.is_slTo (h1.on M C) (h2.on M C) hz⟩
theorem is_slToL {d : Nat} {ρ : Loc} {σ : Store} {o x : E} {p : PV} {t : List PV} {i : Int} {σ₁ σ₂ : Store} (h1 : ev d (.e o ρ σ) (.v p σ₁)) (h2 : ev d (.e x ρ σ₁) (.v (.int i) σ₂)) (e : lstAt σ₂ p = some t) (hz : t.length ≤ 65536) (h0 : 0 ≤ i) : ev d (.e (.slTo o x) ρ σ) (.v (.ref σ₂.length) (σ₂ ++ [.lst (t.take i.toNat)])) := ⟨fun M C => C.is_slToL (h1.on M C) (h2.on M C) e hz h0⟩
theorem is_tup {d : Nat} {ρ : Loc} {σ : Store} {l : List E} {ps : List PV} {σ' : Store} (h : ev d (.es l ρ σ) (.vs ps σ')) (hz : ps.length ≤ 64) : ev d (.e (.tup l) ρ σ) (.v (.tup ps) σ') := ⟨fun M C => C.is_tup (h.on M C) hz⟩
theorem is_lst {d : Nat} {ρ : Loc} {σ : Store} {l : List E} {ps : List PV} {σ' : Store} (h : ev d (.es l ρ σ) (.vs ps σ')) (hz : ps.length ≤ 64) : ev d (.e (.lst l) ρ σ) (.v (.ref σ'.length) (σ' ++ [.lst ps])) := ⟨fun M C => C.is_lst (h.on M C) hz⟩
theorem is_intcomp {d : Nat} {ρ : Loc} {σ : Store} {x : E} {p : PV} {t : List PV} {l : List Int} {σ' : Store} (h1 : ev d (.e x ρ σ) (.v p σ')) (e : lstAt σ' p = some t) (hz : t.length ≤ 65536) (h3 : intsOf t = some l) : ev d (.e (.intcomp x) ρ σ) (.v (.lis (l.map .int)) σ') := ⟨fun M C => C.is_intcomp (h1.on M C) e hz h3⟩
theorem ev_es_nil {d : Nat} {ρ : Loc} {σ : Store} : ev d (.es [] ρ σ) (.vs [] σ) := ⟨fun M C => C.ev_es_nil⟩
theorem es_c {d : Nat} {ρ : Loc} {σ : Store} {x : E} {r : List E} {p : PV} {ps : List PV} {σ' σ'' : Store} (h1 : ev d (.e x ρ σ) (.v p σ')) (h2 : ev d (.es r ρ σ') (.vs ps σ'')) : ev d (.es (x :: r) ρ σ) (.vs (p :: ps) σ'') := ⟨fun M C => C.es_c (h1.on M C) (h2.on M C)⟩
theorem es_x1 {d : Nat} {ρ : Loc} {σ : Store} {x : E} {r : List E} {σ' : Store} (h1 : ev d (.e x ρ σ) (.exc σ')) : ev d (.es (x :: r) ρ σ) (.exc σ') := ⟨fun M C => C.es_x1 (h1.on M C)⟩
theorem es_x2 {d : Nat} {ρ : Loc} {σ : Store} {x : E} {r : List E} {p : PV} {σ' σ'' : Store} (h1 : ev d (.e x ρ σ) (.v p σ')) (h2 : ev d (.es r ρ σ') (.exc σ'')) : ev d (.es (x :: r) ρ σ) (.exc σ'') := ⟨fun M C => C.es_x2 (h1.on M C) (h2.on M C)⟩
theorem bools_one {d : Nat} {ρ : Loc} {σ : Store} {k : Bool} {x : E} {p : Bool} {σ' : Store} (h1 : ev d (.e x ρ σ) (.v (.bool p) σ')) : ev d (.bools k [x] ρ σ) (.v (.bool p) σ') := ⟨fun M C => C.bools_one (h1.on M C)⟩
theorem bools_t {d : Nat} {ρ : Loc} {σ : Store} {k : Bool} {x y : E} {r : List E} {σ' : Store} {o : Out} (h : ev d (.e x ρ σ) (.v (.bool k) σ')) (h2 : ev d (.bools k (y :: r) ρ σ') o) : ev d (.bools k (x :: y :: r) ρ σ) o := ⟨fun M C => C.bools_t (h.on M C) (h2.on M C)⟩
theorem bools_f {d : Nat} {ρ : Loc} {σ : Store} {k : Bool} {x y : E} {r : List E} {σ' : Store} (h : ev d (.e x ρ σ) (.v (.bool (!k)) σ')) : ev d (.bools k (x :: y :: r) ρ σ) (.v (.bool (!k)) σ') := ⟨fun M C => C.bools_f (h.on M C)⟩
theorem do_asg {d : Nat} {ρ : Loc} {σ : Store} {i : Nat} {a : E} {v : PV} {σ' : Store} (h : ev d (.e a ρ σ) (.v v σ')) : ev d (.s (.asg i a) ρ σ) (.fl .next (ρ.set i (some v)) σ') := ⟨fun M C => C.do_asg (h.on M C)⟩
theorem do_asgx {d : Nat} {ρ : Loc} {σ : Store} {i : Nat} {a : E} {σ' : Store} (h : ev d (.e a ρ σ) (.exc σ')) : ev d (.s (.asg i a) ρ σ) (.exc σ') := ⟨fun M C => C.do_asgx (h.on M C)⟩
theorem do_asg2 {d : Nat} {ρ : Loc} {σ : Store} {i j : Nat} {a : E} {v u : PV} {σ' : Store} (h : ev d (.e a ρ σ) (.v (.tup [v, u]) σ')) : ev d (.s (.asg2 i j a) ρ σ) (.fl .next ((ρ.set i (some v)).set j (some u)) σ') := ⟨fun M C => C.do_asg2 (h.on M C)⟩
theorem do_setattr {d : Nat} {ρ : Loc} {σ : Store} {o : E} {f : Nat} {a : E} {v p : PV} {σ' σ'' σ₃ : Store} (h : ev d (.e a ρ σ) (.v v σ')) (h2 : ev d (.e o ρ σ') (.v p σ'')) (h3 : setattrV σ'' p f v = some σ₃) : ev d (.s (.setattr o f a) ρ σ) (.fl .next ρ σ₃) := ⟨fun M C => C.do_setattr (h.on M C) (h2.on M C) h3⟩
theorem do_setitem {d : Nat} {ρ : Loc} {σ : Store} {o i : E} {a : E} {v p q : PV} {σ' σ'' σ₃ σ₄ : Store} (h : ev d (.e a ρ σ) (.v v σ')) (h2 : ev d (.e o ρ σ') (.v p σ'')) (h3 : ev d (.e i ρ σ'') (.v q σ₃)) (h4 : setitemV σ₃ p q v = some σ₄) : ev d (.s (.setitem o i a) ρ σ) (.fl .next ρ σ₄) := ⟨fun M C => C.do_setitem (h.on M C) (h2.on M C) (h3.on M C) h4⟩
theorem do_expr {d : Nat} {ρ : Loc} {σ : Store} {a : E} {v : PV} {σ' : Store} (h : ev d (.e a ρ σ) (.v v σ')) : ev d (.s (.expr a) ρ σ) (.fl .next ρ σ') := ⟨fun M C => C.do_expr (h.on M C)⟩
theorem do_exprx {d : Nat} {ρ : Loc} {σ : Store} {a : E} {σ' : Store} (h : ev d (.e a ρ σ) (.exc σ')) : ev d (.s (.expr a) ρ σ) (.exc σ') := ⟨fun M C => C.do_exprx (h.on M C)⟩
theorem do_ife {d : Nat} {ρ : Loc} {σ : Store} {t : E} {a c : List S} {b : Bool} {σ' : Store} {r : Out} (h : ev d (.e t ρ σ) (.v (.bool b) σ')) (h2 : ev d (.ss (if b then a else c) ρ σ') r) : ev d (.s (.ife t a c) ρ σ) r := ⟨fun M C => C.do_ife (h.on M C) (h2.on M C)⟩
theorem do_whl {d : Nat} {ρ : Loc} {σ : Store} {t : E} {b : List S} {r : Out} (h : ev d (.whl t b ρ σ) r) : ev d (.s (.whl t b) ρ σ) r := ⟨fun M C => C.do_whl (h.on M C)⟩
theorem do_forr {d : Nat} {ρ : Loc} {σ : Store} {i : Nat} {it : E} {b : List S} {v : PV} {src : Src} {σ' : Store} {r : Out} (h : ev d (.e it ρ σ) (.v v σ')) (h2 : srcOf σ' v = some src) (h3 : ev d (.fr i src b ρ σ') r) : ev d (.s (.forr i it b) ρ σ) r := ⟨fun M C => C.do_forr (h.on M C) h2 (h3.on M C)⟩
theorem do_ret {d : Nat} {ρ : Loc} {σ : Store} {a : E} {v : PV} {σ' : Store} (h : ev d (.e a ρ σ) (.v v σ')) : ev d (.s (.ret a) ρ σ) (.fl (.ret v) ρ σ') := ⟨fun M C => C.do_ret (h.on M C)⟩
theorem do_retx {d : Nat} {ρ : Loc} {σ : Store} {a : E} {σ' : Store} (h : ev d (.e a ρ σ) (.exc σ')) : ev d (.s (.ret a) ρ σ) (.exc σ') := ⟨fun M C => C.do_retx (h.on M C)⟩
theorem do_raise {d : Nat} {ρ : Loc} {σ : Store} {a b : E} {t : List Nat} {fs : List (Nat × PV)} {σ' σ'' : Store} (h : ev d (.e a ρ σ) (.v (.str t) σ')) (h2 : ev d (.e b ρ σ') (.v (.inst 0 fs) σ'')) : ev d (.s (.raise a b) ρ σ) (.exc σ'') := ⟨fun M C => C.do_raise (h.on M C) (h2.on M C)⟩
theorem do_tryx {d : Nat} {ρ : Loc} {σ : Store} {b : List S} {l : List Nat} {σ' : Store} (h : ev d (.ss b ρ σ) (.exc σ')) : ev d (.s (.tryr b l) ρ σ) (.fl (.ret (.tup [.str l])) ρ σ') := ⟨fun M C => C.do_tryx (h.on M C)⟩
theorem do_tryr {d : Nat} {ρ : Loc} {σ : Store} {b : List S} {l : List Nat} {f : Flow} {ρ' : Loc} {σ' : Store} (h : ev d (.ss b ρ σ) (.fl f ρ' σ')) : ev d (.s (.tryr b l) ρ σ) (.fl f ρ' σ') := ⟨fun M C => C.do_tryr (h.on M C)⟩
theorem ev_ss_nil {d : Nat} {ρ : Loc} {σ : Store} : ev d (.ss [] ρ σ) (.fl .next ρ σ) := ⟨fun M C => C.ev_ss_nil⟩
theorem ss_next {d : Nat} {ρ : Loc} {σ : Store} {x : S} {r : List S} {ρ' : Loc} {σ' : Store} {o : Out} (h : ev d (.s x ρ σ) (.fl .next ρ' σ')) (h2 : ev d (.ss r ρ' σ') o) : ev d (.ss (x :: r) ρ σ) o := ⟨fun M C => C.ss_next (h.on M C) (h2.on M C)⟩
theorem ss_retd {d : Nat} {ρ : Loc} {σ : Store} {x : S} {r : List S} {ρ' : Loc} {σ' : Store} {v : PV} (h : ev d (.s x ρ σ) (.fl (.ret v) ρ' σ')) : ev d (.ss (x :: r) ρ σ) (.fl (.ret v) ρ' σ') := ⟨fun M C => C.ss_retd (h.on M C)⟩
theorem ss_excd {d : Nat} {ρ : Loc} {σ : Store} {x : S} {r : List S} {σ' : Store} (h : ev d (.s x ρ σ) (.exc σ')) : ev d (.ss (x :: r) ρ σ) (.exc σ') := ⟨fun M C => C.ss_excd (h.on M C)⟩
theorem whl_end {d : Nat} {ρ : Loc} {σ : Store} {t : E} {b : List S} {σ' : Store} (h : ev d (.e t ρ σ) (.v (.bool false) σ')) : ev d (.whl t b ρ σ) (.fl .next ρ σ') := ⟨fun M C => C.whl_end (h.on M C)⟩
theorem whl_turn {d : Nat} {ρ : Loc} {σ : Store} {t : E} {b : List S} {ρ' : Loc} {σ' σ'' : Store} {o : Out} (h : ev d (.e t ρ σ) (.v (.bool true) σ')) (h2 : ev d (.ss b ρ σ') (.fl .next ρ' σ'')) (h3 : ev d (.whl t b ρ' σ'') o) : ev d (.whl t b ρ σ) o := ⟨fun M C => C.whl_turn (h.on M C) (h2.on M C) (h3.on M C)⟩
theorem whl_exc {d : Nat} {ρ : Loc} {σ : Store} {t : E} {b : List S} {σ' σ'' : Store} (h : ev d (.e t ρ σ) (.v (.bool true) σ')) (h2 : ev d (.ss b ρ σ') (.exc σ'')) : ev d (.whl t b ρ σ) (.exc σ'') := ⟨fun M C => C.whl_exc (h.on M C) (h2.on M C)⟩
theorem fr_end {d : Nat} {ρ : Loc} {σ : Store} {i : Nat} {src : Src} {b : List S} (e : srcNext σ src = some none) : ev d (.fr i src b ρ σ) (.fl .next ρ σ) := ⟨fun M C => C.fr_end e⟩
theorem fr_turn {d : Nat} {ρ : Loc} {σ : Store} {i : Nat} {src src' : Src} {b : List S} {v : PV} {ρ' : Loc} {σ' : Store} {o : Out} (e : srcNext σ src = some (some (v, src'))) (h : ev d (.ss b (ρ.set i (some v)) σ) (.fl .next ρ' σ')) (h2 : ev d (.fr i src' b ρ' σ') o) : ev d (.fr i src b ρ σ) o := ⟨fun M C => C.fr_turn e (h.on M C) (h2.on M C)⟩
theorem fr_retd {d : Nat} {ρ : Loc} {σ : Store} {i : Nat} {src src' : Src} {b : List S} {v u : PV} {ρ' : Loc} {σ' : Store} (e : srcNext σ src = some (some (v, src'))) (h : ev d (.ss b (ρ.set i (some v)) σ) (.fl (.ret u) ρ' σ')) : ev d (.fr i src b ρ σ) (.fl (.ret u) ρ' σ') := ⟨fun M C => C.fr_retd e (h.on M C)⟩
theorem do_call {d : Nat} {σ : Store} {f : Nat} {as : List PV} {fn : Fn} {v : PV} {ρ' : Loc} {σ' : Store} (h : fnTab f = some fn) (hn : as.length = fn.np) (hb : ev d (.ss fn.body (as.map some ++ List.replicate (fn.nl - fn.np) none) σ) (.fl (.ret v) ρ' σ')) : ev (d + 1) (.call f as σ) (.v v σ') := ⟨fun M C => C.do_call h hn (hb.on M C)⟩
theorem do_calln {d : Nat} {σ : Store} {f : Nat} {as : List PV} {fn : Fn} {ρ' : Loc} {σ' : Store} (h : fnTab f = some fn) (hn : as.length = fn.np) (hb : ev d (.ss fn.body (as.map some ++ List.replicate (fn.nl - fn.np) none) σ) (.fl .next ρ' σ')) : ev (d + 1) (.call f as σ) (.v .none σ') := ⟨fun M C => C.do_calln h hn (hb.on M C)⟩
theorem do_callx {d : Nat} {σ : Store} {f : Nat} {as : List PV} {fn : Fn} {σ' : Store} (h : fnTab f = some fn) (hn : as.length = fn.np) (hb : ev d (.ss fn.body (as.map some ++ List.replicate (fn.nl - fn.np) none) σ) (.exc σ')) : ev (d + 1) (.call f as σ) (.exc σ') := ⟨fun M C => C.do_callx h hn (hb.on M C)⟩
end Mine
end
section
open PySem PySem.W PyProof.Rows PySem.Calls
namespace Mine
noncomputable abbrev XE := PySem.Expr
noncomputable abbrev XS := PySem.Stmt
noncomputable abbrev V := PySem.Value

/-- the model's text for a list of codes -/
noncomputable def st (l : List Nat) : Str := ⟨l.toArray⟩
noncomputable def nm (i : Nat) : Str := st (nmTab i)

noncomputable def fieldsOf (c : Nat) : List Nat := match initTab c with
  | some (_, l) => l.map (·.1)
  | none => []
noncomputable abbrev Rho := List (Addr × Addr)
noncomputable def isOwn (ρ : Rho) (a : Addr) : Prop := ∃ p ∈ ρ, a = p.1 ∨ a = p.2
noncomputable def isFr (fr : List Env) (a : Addr) : Prop := a ∈ fr.filterMap (·.frame)

section
variable (clsA : Nat → Addr)
inductive RepV (B : Heap) (ρ : Rho) : PV → V → Prop
  | none : RepV B ρ .none .none
  | bool (b) : RepV B ρ (.bool b) (.bool b)
  | int (i t) : RepV B ρ (.int i) (.int i t)
  | str (l t) : RepV B ρ (.str l) (.str (st l) t)
  | tup {l xs a o n} : B.get? a = some o → o.cls = .type "tuple" → o.data = .seq xs n → l.length = xs.size →
      (∀ (i : Nat) (p : PV) (v : V), l[i]? = some p → xs[i]? = some v → RepV B ρ p v) → RepV B ρ (.tup l) (.ref a)
  | lis {l xs a o n} : B.get? a = some o → o.cls = .type "list" → o.data = .seq xs n → l.length = xs.size →
      (∀ (i : Nat) (p : PV) (v : V), l[i]? = some p → xs[i]? = some v → RepV B ρ p v) → RepV B ρ (.lis l) (.ref a)
  | inst {c fs a o d m} {val : Nat → V} : c < 9 → (∀ f p, fs.lookup f = some p → f ∈ fieldsOf c) → B.get? a = some o → o.cls = .ref (clsA c) → o.dict = some d → o.data = .plain → B.Ns d m →
      (∀ f p, fs.lookup f = some p → m (nm f) = some (val f)) → (∀ x, (∀ f p, fs.lookup f = some p → nm f ≠ x) → m x = none) →
      (∀ f p, fs.lookup f = some p → RepV B ρ p (val f)) → RepV B ρ (.inst c fs) (.ref a)
  | rng {a lo hi} {t1 t2 t3 : Tok} : IsRange B a lo hi 1 t1 t2 t3 → RepV B ρ (.rng lo hi) (.ref a)
  | ref {i a d} : ρ[i]? = some (a, d) → RepV B ρ (.ref i) (.ref a)
end

theorem prefix_get {α : Type} {l l' : List α} (h : l <+: l') {i : Nat} {x : α} (e : l[i]? = some x) : l'[i]? = some x := by
  obtain ⟨r, rfl⟩ := h
  have hi : i < l.length := by
    rcases Nat.lt_or_ge i l.length with h | h
    · exact h
    · rw [List.getElem?_eq_none h] at e; cases e
  rw [List.getElem?_append_left hi]; exact e

variable {clsA : Nat → Addr}
theorem RepV.mono {B B' : Heap} {ρ ρ' : Rho} {p : PV} {v : V} (hB : B.StaysIn B') (hρ : ρ <+: ρ') (h : RepV clsA B ρ p v) : RepV clsA B' ρ' p v := by
  induction h with
  | none => exact .none
  | bool b => exact .bool b
  | int i t => exact .int i t
  | str l t => exact .str l t
  | tup h1 h2 h3 h4 _ ih => exact .tup (hB _ _ h1) h2 h3 h4 ih
  | lis h1 h2 h3 h4 _ ih => exact .lis (hB _ _ h1) h2 h3 h4 ih
  | inst g1 g2 h1 h2 h3 h4 h5 h6 h7 _ ih => exact .inst g1 g2 (hB _ _ h1) h2 h3 h4 (h5.keeps hB) h6 h7 ih
  | rng h1 => exact .rng (hB _ _ h1)
  | ref h => exact .ref (prefix_get hρ h)

/-- a namespace of at most k names -/
noncomputable def NsN (h : Heap) (b : Addr) (k : Nat) (m : Str → Option V) : Prop := ∃ o es ep, h.get? b = some o ∧ o.data = .dict es ep ∧ StrKeys es ∧ (∀ name, nsFind es name = m name) ∧ es.size ≤ k
theorem NsN.ns {h : Heap} {b : Addr} {k : Nat} {m : Str → Option V} (x : NsN h b k m) : h.Ns b m := let ⟨o, es, ep, h1, h2, h3, h4, _⟩ := x; ⟨o, es, ep, h1, h2, h3, h4⟩
theorem NsN.keeps {h h' : Heap} {b : Addr} {n : Nat} {m : Str → Option V} (x : NsN h b n m) (k : ∀ b o, h.get? b = some o → h'.get? b = some o) : NsN h' b n m := let ⟨o, es, ep, h1, r⟩ := x; ⟨o, es, ep, k _ _ h1, r⟩
variable (clsA) in
/-- a thing of the store, as it stands in the heap -/
noncomputable def MOk (B : Heap) (ρ : Rho) (h : Heap) : MO → Addr × Addr → Prop
  | .lst l, (a, d) => d = a ∧ ∃ o xs n, h.get? a = some o ∧ o.cls = .type "list" ∧ (o.dict = .none ∧ o.slots = #[]) ∧ o.data = .seq xs n ∧ l.length = xs.size ∧ ∀ (i : Nat) (p : PV) (v : V), l[i]? = some p → xs[i]? = some v → RepV clsA B ρ p v
  | .inst c fs, (a, d) => c < 9 ∧ (∀ f p, fs.lookup f = some p → f ∈ fieldsOf c) ∧ ∃ o m, h.get? a = some o ∧ o.cls = .ref (clsA c) ∧ o.dict = some d ∧ o.data = .plain ∧ NsN h d 8 m ∧
      (∀ f p, fs.lookup f = some p → ∃ v, m (nm f) = some v ∧ RepV clsA B ρ p v) ∧ ∀ x, (∀ f p, fs.lookup f = some p → nm f ≠ x) → m x = none

theorem MOk.mono {B B' : Heap} {ρ ρ' : Rho} {h h' : Heap} {o : MO} {p : Addr × Addr} (hB : B.StaysIn B') (hρ : ρ <+: ρ') (h1 : ∀ x, h.get? p.1 = some x → h'.get? p.1 = some x) (h2 : ∀ k m, NsN h p.2 k m → NsN h' p.2 k m)
    (x : MOk clsA B ρ h o p) : MOk clsA B' ρ' h' o p := by
  obtain ⟨a, d⟩ := p
  cases o with
  | lst l =>
    obtain ⟨g, o, xs, n, e1, e2, ed, e3, e4, e5⟩ := x
    exact ⟨g, _, xs, n, h1 o e1, e2, ed, e3, e4, fun i p v a b => (e5 i p v a b).mono hB hρ⟩
  | inst c fs =>
    obtain ⟨g1, g2, o, m, e1, e2, e3, e4, e5, e6, e7⟩ := x
    exact ⟨g1, g2, _, m, h1 o e1, e2, e3, e4, h2 8 m e5, fun f p hf => let ⟨v, a, b⟩ := e6 f p hf; ⟨v, a, b.mono hB hρ⟩, e7⟩

noncomputable def Apart (p q : Addr × Addr) : Prop := p.1 ≠ q.1 ∧ p.1 ≠ q.2 ∧ p.2 ≠ q.1 ∧ p.2 ≠ q.2

variable (clsA) in
/-- what stands of the store, whatever the frames -/
structure St0 (K : Frag) (B : Heap) (ρ : Rho) (σ : Store) (h : Heap) : Prop where
  kin : K.In B
  stays : B.StaysIn h
  len : ρ.length = σ.length
  mo : ∀ (i : Nat) o p, σ[i]? = some o → ρ[i]? = some p → MOk clsA B ρ h o p
  own : ∀ a, isOwn ρ a → B.get? a = none
  dis : ρ.Pairwise Apart

variable (clsA) in
structure St (K : Frag) (fr : List Env) (B : Heap) (ρ : Rho) (σ : Store) (h : Heap) : Prop extends St0 clsA K B ρ σ h where
  off : ∀ a, isOwn ρ a → ¬ isFr fr a
  frames : h.FunFrames B fr

theorem St0.keeps {K : Frag} {B : Heap} {ρ : Rho} {σ : Store} {h h' : Heap} (x : St0 clsA K B ρ σ h) (k : ∀ b o, h.get? b = some o → h'.get? b = some o) : St0 clsA K B ρ σ h' :=
  ⟨x.kin, fun b o e => k b o (x.stays b o e), x.len, fun i o p a b => (x.mo i o p a b).mono (fun _ _ e => e) (List.prefix_refl _) (fun y e => k _ _ e) fun _ m n => n.keeps k, x.own, x.dis⟩
theorem FunFrames.keeps {h h' B : Heap} {fr : List Env} (k : ∀ b o, h.get? b = some o → h'.get? b = some o) (x : h.FunFrames B fr) : h'.FunFrames B fr :=
  x.of_keeps fun b o e _ => ⟨o, k b o e, rfl⟩
theorem St.keeps {K : Frag} {fr : List Env} {B : Heap} {ρ : Rho} {σ : Store} {h h' : Heap} (x : St clsA K fr B ρ σ h) (k : ∀ b o, h.get? b = some o → h'.get? b = some o) : St clsA K fr B ρ σ h' :=
  ⟨x.toSt0.keeps k, x.off, FunFrames.keeps k x.frames⟩
theorem FunFrames.base {h B B' : Heap} : ∀ {fr : List Env}, (∀ a, isFr fr a → B'.get? a = none) → h.FunFrames B fr → h.FunFrames B' fr
  | [], _, _ => trivial
  | env :: r, hn, ⟨a, ⟨L, o, hf, _, e, d⟩, c⟩ => ⟨a, ⟨L, o, hf, hn L (by unfold isFr; rw [List.filterMap_cons, hf]; exact .head _), e, d⟩, FunFrames.base (fun b hb => hn b (by unfold isFr at *; rw [List.filterMap_cons, hf]; exact .tail _ hb)) c⟩

/-- the base grown by some things of the heap -/
theorem St.grow {K : Frag} {fr : List Env} {B B' : Heap} {ρ : Rho} {σ : Store} {h : Heap} (x : St clsA K fr B ρ σ h) (k : B.StaysIn B') (s : B'.StaysIn h) (ho : ∀ a, isOwn ρ a → B'.get? a = none) (hf : ∀ a, isFr fr a → B'.get? a = none) : St clsA K fr B' ρ σ h :=
  ⟨⟨x.kin.keeps k, s, x.len, fun i o p a b => (x.mo i o p a b).mono k (List.prefix_refl _) (fun y e => e) fun _ _ n => n, ho, x.dis⟩, x.off, FunFrames.base hf x.frames⟩

structure Ext (xs : List Addr) (B : Heap) (ρ : Rho) (s : Shared) (B' : Heap) (ρ' : Rho) (s' : Shared) : Prop where
  base : B.StaysIn B'
  fresh : ∀ a o, B'.get? a = some o → B.get? a = some o ∨ s.heap.get? a = none ∨ a ∈ xs ∨ isOwn ρ a
  pre : ρ <+: ρ'
  new : ∀ a, isOwn ρ' a → isOwn ρ a ∨ s.heap.get? a = none ∨ a ∈ xs
  os : s'.os = s.os
  gens : s'.gens = s.gens
/-- a step that came back: xs the things beside the store that may turn, ks the namespaces that stand -/
structure Step (xs ks : List Addr) (B : Heap) (ρ : Rho) (s : Shared) (B' : Heap) (ρ' : Rho) (s' : Shared) : Prop extends Ext xs B ρ s B' ρ' s' where
  old : ∀ a o, s.heap.get? a = some o → ¬ isOwn ρ a → a ∉ xs → s'.heap.get? a = some o
  ns : ∀ a m, a ∈ ks → s.heap.Ns a m → s'.heap.Ns a m

theorem Ext.refl (xs : List Addr) (B : Heap) (ρ : Rho) (s : Shared) : Ext xs B ρ s B ρ s := ⟨fun _ _ e => e, fun _ _ e => .inl e, List.prefix_refl _, fun _ h => .inl h, rfl, rfl⟩
theorem Step.ext {xs ks : List Addr} {B B' B'' : Heap} {ρ ρ' ρ'' : Rho} {s s' s'' : Shared} (x : Step xs ks B ρ s B' ρ' s') (y : Ext xs B' ρ' s' B'' ρ'' s'') : Ext xs B ρ s B'' ρ'' s'' := by
  have gone : ∀ a, s'.heap.get? a = none → ¬ isOwn ρ a → s.heap.get? a = none ∨ a ∈ xs := fun a h n => by
    by_cases q : a ∈ xs
    · exact .inr q
    · cases e : s.heap.get? a with
      | none => exact .inl rfl
      | some o => rw [x.old a o e n q] at h; cases h
  refine ⟨fun _ _ e => y.base _ _ (x.base _ _ e), fun a o h => ?_, x.pre.trans y.pre, fun a h => ?_, y.os.trans x.os, y.gens.trans x.gens⟩
  · rcases y.fresh a o h with q | q | q | q
    · exact x.fresh a o q
    · by_cases z : isOwn ρ a
      · exact .inr (.inr (.inr z))
      · exact (gone a q z).elim (fun u => .inr (.inl u)) fun u => .inr (.inr (.inl u))
    · exact .inr (.inr (.inl q))
    · exact (x.new a q).elim (fun u => .inr (.inr (.inr u))) fun u => u.elim (fun u => .inr (.inl u)) fun u => .inr (.inr (.inl u))
  · rcases y.new a h with q | q | q
    · exact x.new a q
    · by_cases z : isOwn ρ a
      · exact .inl z
      · exact .inr (gone a q z)
    · exact .inr (.inr q)
theorem Ext.old_new {xs : List Addr} {B B' : Heap} {ρ ρ' : Rho} {s s' : Shared} (x : Ext xs B ρ s B' ρ' s') {a : Addr} {o : Obj} (e : s.heap.get? a = some o) (n : ¬ isOwn ρ a) (f : a ∉ xs) : ¬ isOwn ρ' a := fun z => by
  rcases x.new a z with q | q | q
  · exact n q
  · rw [e] at q; cases q
  · exact f q
theorem Step.refl (xs ks : List Addr) (B : Heap) (ρ : Rho) (s : Shared) : Step xs ks B ρ s B ρ s := ⟨.refl .., fun _ _ e _ _ => e, fun _ _ _ e => e⟩
theorem Step.trans {xs ks : List Addr} {B B' B'' : Heap} {ρ ρ' ρ'' : Rho} {s s' s'' : Shared} (x : Step xs ks B ρ s B' ρ' s') (y : Step xs ks B' ρ' s' B'' ρ'' s'') : Step xs ks B ρ s B'' ρ'' s'' :=
  ⟨x.ext y.toExt, fun a o e n f => y.old a o (x.old a o e n f) (x.old_new e n f) f, fun a m f e => y.ns a m f (x.ns a m f e)⟩
theorem Ext.weak {xs xs' : List Addr} {B B' : Heap} {ρ ρ' : Rho} {s s' : Shared} (x : Ext xs B ρ s B' ρ' s') (h : ∀ a, a ∈ xs → a ∈ xs') : Ext xs' B ρ s B' ρ' s' :=
  ⟨x.base, fun a o e => (x.fresh a o e).imp id (.imp id (.imp (h a) id)), x.pre, fun a e => (x.new a e).imp id (.imp id (h a)), x.os, x.gens⟩
theorem Step.weak {xs xs' ks ks' : List Addr} {B B' : Heap} {ρ ρ' : Rho} {s s' : Shared} (x : Step xs ks B ρ s B' ρ' s') (h : ∀ a, a ∈ xs → a ∈ xs') (k : ∀ a, a ∈ ks' → a ∈ ks) : Step xs' ks' B ρ s B' ρ' s' :=
  ⟨x.toExt.weak h, fun a o e n f => x.old a o e n fun q => f (h a q), fun a m f e => x.ns a m (k a f) e⟩
/-- all that was there stands -/
theorem Step.of_keeps {xs ks : List Addr} {B : Heap} {ρ : Rho} {s s' : Shared} (k : ∀ b o, s.heap.get? b = some o → s'.heap.get? b = some o) (ho : s'.os = s.os := by rfl) (hg : s'.gens = s.gens := by rfl) : Step xs ks B ρ s B ρ s' :=
  ⟨⟨fun _ _ e => e, fun _ _ e => .inl e, List.prefix_refl _, fun _ h => .inl h, ho, hg⟩, fun a o e _ _ => k a o e, fun _ _ _ e => e.keeps k⟩
/-- what was not there at the start may turn -/
theorem Step.drop {xs ks : List Addr} {it : Addr} {B B' B'' : Heap} {ρ ρ' ρ'' : Rho} {s s' s'' : Shared} (hit : s.heap.get? it = none) (x : Step xs ks B ρ s B' ρ' s') (y : Step (it :: xs) ks B' ρ' s' B'' ρ'' s'') : Step xs ks B ρ s B'' ρ'' s'' := by
  have z := (x.weak (xs' := it :: xs) (fun a h => .tail _ h) (fun a h => h)).trans y
  refine ⟨⟨z.base, fun a o e => ?_, z.pre, fun a e => ?_, z.os, z.gens⟩, fun a o e n f => z.old a o e n fun q => ?_, z.ns⟩
  · rcases z.fresh a o e with q | q | q | q
    · exact .inl q
    · exact .inr (.inl q)
    · rcases List.mem_cons.mp q with rfl | q
      · exact .inr (.inl hit)
      · exact .inr (.inr (.inl q))
    · exact .inr (.inr (.inr q))
  · rcases z.new a e with q | q | q
    · exact .inl q
    · exact .inr (.inl q)
    · rcases List.mem_cons.mp q with rfl | q
      · exact .inr (.inl hit)
      · exact .inr (.inr q)
  · rcases List.mem_cons.mp q with rfl | q
    · rw [hit] at e; cases e
    · exact f q
noncomputable abbrev frs (fr : List Env) : List Addr := fr.filterMap (·.frame)
theorem isFr_tail {env : Env} {fr : List Env} {a : Addr} (h : isFr fr a) : isFr (env :: fr) a := by
  unfold isFr at *
  rw [List.filterMap_cons]
  split
  · exact h
  · exact .tail _ h
theorem isFr_head {env : Env} {fr : List Env} {a : Addr} (h : env.frame = some a) : isFr (env :: fr) a := by
  unfold isFr
  rw [List.filterMap_cons, h]
  exact .head _

variable (clsA) in
/-- the locals -/
noncomputable def Lo (B : Heap) (ρ : Rho) (names : List Str) (l : Loc) (h : Heap) (L : Addr) : Prop :=
  ∃ m, h.Ns L m ∧ ∀ (i : Nat) (p : PV), locAt l i = some p → ∃ x v, names[i]? = some x ∧ m x = some v ∧ RepV clsA B ρ p v
theorem Lo.step {xs ks : List Addr} {B B' : Heap} {ρ ρ' : Rho} {s s' : Shared} {names : List Str} {l : Loc} {L : Addr} (x : Step xs ks B ρ s B' ρ' s') (hL : L ∈ ks) (h : Lo clsA B ρ names l s.heap L) : Lo clsA B' ρ' names l s'.heap L := by
  obtain ⟨m, a, b⟩ := h
  exact ⟨m, x.ns L m hL a, fun i p e => let ⟨y, v, q1, q2, q3⟩ := b i p e; ⟨y, v, q1, q2, q3.mono x.base x.pre⟩⟩

end Mine
end
section
open PySem PySem.W PyProof.Rows PySem.Calls
set_option backward.match.sparseCases false
namespace Mine

structure Sc where
  sc : Scope
  names : List Str
noncomputable def Sc.glb (c : Sc) (x : Str) : Bool := c.sc.names.lookup x == some .globalImplicit && x != ("__debug__" : Str)
noncomputable def Sc.lcl (c : Sc) (x : Str) : Bool := c.sc.names.lookup x == some .local && x != ("__debug__" : Str)

noncomputable def opOf : Bop → Operator
  | .add => .Add | .sub => .Sub | .mul => .Mult | .mod => .Mod | .fdiv => .FloorDiv | .shl => .LShift
noncomputable def copOf : Cop → CmpOp
  | .lt => .Lt | .le => .LtE | .gt => .Gt | .ge => .GtE | .eq => .Eq | .ne => .NotEq | .isin => .In | .notin => .NotIn
noncomputable def bopIs (o : Bop) (op : Operator) : Bool := decide (op = opOf o)
noncomputable def copIs (o : Cop) (op : CmpOp) : Bool := decide (op = copOf o)
noncomputable def noStar : XE → Bool
  | .Starred _ _ | .Slice _ _ _ _ => false
  | _ => true
noncomputable def plainX : XE → Bool
  | .Starred _ _ => false
  | .ListComp _ _ _ _ | .SetComp _ _ _ _ | .DictComp _ _ _ _ _ => false
  | _ => true
/-- the value is not a call of super -/
noncomputable def notSuper : XE → Bool
  | .Call (.Name id _) [] [] _ => id != ("super" : Str)
  | _ => true
noncomputable def isCall : XE → Bool
  | .Call .. => true
  | _ => false
noncomputable def vNone (e : XE) : Option { q : Nat × Pos // e = .Constant .none q.1 (q.2) } := match e with | .Constant .none k p => some ⟨(k, p), rfl⟩ | _ => none
noncomputable def vBool (e : XE) : Option { q : Bool × Nat × Pos // e = .Constant (.bool q.1) q.2.1 q.2.2 } := match e with | .Constant (.bool b) k p => some ⟨(b, k, p), rfl⟩ | _ => none
noncomputable def vInt (e : XE) : Option { q : Int × Nat × Pos // e = .Constant (.int q.1) q.2.1 q.2.2 } := match e with | .Constant (.int b) k p => some ⟨(b, k, p), rfl⟩ | _ => none
noncomputable def vStr (e : XE) : Option { q : Str × Nat × Pos // e = .Constant (.str q.1) q.2.1 q.2.2 } := match e with | .Constant (.str b) k p => some ⟨(b, k, p), rfl⟩ | _ => none
noncomputable def vName (e : XE) : Option { q : Str × Pos // e = .Name q.1 q.2 } := match e with | .Name x p => some ⟨(x, p), rfl⟩ | _ => none
noncomputable def vBin (e : XE) : Option { q : XE × Operator × XE × Pos // e = .BinOp q.1 q.2.1 q.2.2.1 q.2.2.2 } := match e with | .BinOp l o r p => some ⟨(l, o, r, p), rfl⟩ | _ => none
noncomputable def vCmp (e : XE) : Option { q : XE × List CmpOp × List XE × Pos // e = .Compare q.1 q.2.1 q.2.2.1 q.2.2.2 } := match e with | .Compare l o r p => some ⟨(l, o, r, p), rfl⟩ | _ => none
noncomputable def vAnd (e : XE) : Option { q : List XE × Pos // e = .BoolOp .And q.1 q.2 } := match e with | .BoolOp .And l p => some ⟨(l, p), rfl⟩ | _ => none
noncomputable def vOr (e : XE) : Option { q : List XE × Pos // e = .BoolOp .Or q.1 q.2 } := match e with | .BoolOp .Or l p => some ⟨(l, p), rfl⟩ | _ => none
noncomputable def vNot (e : XE) : Option { q : XE × Pos // e = .UnaryOp .Not q.1 q.2 } := match e with | .UnaryOp .Not l p => some ⟨(l, p), rfl⟩ | _ => none
noncomputable def vIte (e : XE) : Option { q : XE × XE × XE × Pos // e = .IfExp q.1 q.2.1 q.2.2.1 q.2.2.2 } := match e with | .IfExp t x y p => some ⟨(t, x, y, p), rfl⟩ | _ => none
noncomputable def vCall (e : XE) : Option { q : XE × List XE × Pos // e = .Call q.1 q.2.1 [] q.2.2 } := match e with | .Call f l [] p => some ⟨(f, l, p), rfl⟩ | _ => none
noncomputable def vAttr (e : XE) : Option { q : XE × Str × Pos // e = .Attribute q.1 q.2.1 q.2.2 } := match e with | .Attribute f n p => some ⟨(f, n, p), rfl⟩ | _ => none
noncomputable def vSub (e : XE) : Option { q : XE × XE × Pos // e = .Subscript q.1 q.2.1 q.2.2 } := match e with | .Subscript f n p => some ⟨(f, n, p), rfl⟩ | _ => none
noncomputable def vSl (e : XE) : Option { q : Option XE × Option XE × Pos // e = .Slice q.1 q.2.1 none q.2.2 } := match e with | .Slice f n none p => some ⟨(f, n, p), rfl⟩ | _ => none
noncomputable def vTup (e : XE) : Option { q : List XE × Nat × Pos // e = .Tuple q.1 q.2.1 q.2.2 } := match e with | .Tuple l k p => some ⟨(l, k, p), rfl⟩ | _ => none
noncomputable def vLst (e : XE) : Option { q : List XE × Pos // e = .List q.1 q.2 } := match e with | .List l p => some ⟨(l, p), rfl⟩ | _ => none
noncomputable def vComp (e : XE) : Option { q : XE × Comprehension × Scope × Pos // e = .ListComp q.1 [q.2.1] q.2.2.1 q.2.2.2 } := match e with | .ListComp x [g] c p => some ⟨(x, g, c, p), rfl⟩ | _ => none
noncomputable def vAsg (e : XS) : Option { q : XE × XE × Pos // e = .Assign [q.1] q.2.1 q.2.2 } := match e with | .Assign [t] v p => some ⟨(t, v, p), rfl⟩ | _ => none
noncomputable def vExp (e : XS) : Option { q : XE × Pos // e = .Expr q.1 q.2 } := match e with | .Expr v p => some ⟨(v, p), rfl⟩ | _ => none
noncomputable def vIf (e : XS) : Option { q : XE × List XS × List XS × Pos // e = .If q.1 q.2.1 q.2.2.1 q.2.2.2 } := match e with | .If t x y p => some ⟨(t, x, y, p), rfl⟩ | _ => none
noncomputable def vWhl (e : XS) : Option { q : XE × List XS × Pos // e = .While q.1 q.2.1 [] q.2.2 } := match e with | .While t x [] p => some ⟨(t, x, p), rfl⟩ | _ => none
noncomputable def vFor (e : XS) : Option { q : XE × XE × List XS × Pos // e = .For q.1 q.2.1 q.2.2.1 [] q.2.2.2 } := match e with | .For v t x [] p => some ⟨(v, t, x, p), rfl⟩ | _ => none
noncomputable def vRet (e : XS) : Option { q : XE × Pos // e = .Return (some q.1) q.2 } := match e with | .Return (some v) p => some ⟨(v, p), rfl⟩ | _ => none
noncomputable def vRai (e : XS) : Option { q : XE × Pos // e = .Raise (some q.1) none q.2 } := match e with | .Raise (some v) none p => some ⟨(v, p), rfl⟩ | _ => none
noncomputable def vTry (e : XS) : Option { q : List XS × ExceptHandler × Pos // e = .Try q.1 [q.2.1] [] [] q.2.2 } := match e with | .Try x [h] [] [] p => some ⟨(x, h, p), rfl⟩ | _ => none
noncomputable def vHnd (e : ExceptHandler) : Option { q : XE × XS × Pos // e = .ExceptHandler (some q.1) none [q.2.1] q.2.2 } := match e with | .ExceptHandler (some t) none [r] p => some ⟨(t, r, p), rfl⟩ | _ => none
noncomputable def vGen (e : Comprehension) : Option { q : XE × XE // e = ⟨q.1, q.2, [], 0⟩ } := match e with | ⟨t, i, [], 0⟩ => some ⟨(t, i), rfl⟩ | _ => none
noncomputable def v1 {α : Type} (l : List α) : Option { q : α // l = [q] } := match l with | [x] => some ⟨x, rfl⟩ | _ => none
noncomputable def v2 {α : Type} (l : List α) : Option { q : α × α // l = [q.1, q.2] } := match l with | [x, y] => some ⟨(x, y), rfl⟩ | _ => none
noncomputable def v3 {α : Type} (l : List α) : Option { q : α × α × α // l = [q.1, q.2.1, q.2.2] } := match l with | [x, y, z] => some ⟨(x, y, z), rfl⟩ | _ => none
theorem any_inv {α : Type} {o : Option α} {p : α → Bool} (h : o.any p = true) : ∃ x, p x = true := by
  cases o with
  | none => exact Bool.noConfusion h
  | some x => exact ⟨x, h⟩
theorem opt_inv {α : Type} {o : Option α} {p : α → Bool} (h : o.any p = true) : ∃ x, o = some x ∧ p x = true := by
  cases o with
  | none => exact Bool.noConfusion h
  | some x => exact ⟨x, rfl, h⟩
theorem and_inv {a b : Bool} (h : (a && b) = true) : a = true ∧ b = true := Bool.and_eq_true_iff.mp h
theorem not_inv {a : Bool} (h : (!a) = true) : a = false := by cases a <;> first | rfl | exact Bool.noConfusion h
theorem dec_inv {p : Prop} [Decidable p] (h : decide p = true) : p := of_decide_eq_true h
theorem nil_inv {α : Type} {l : List α} (h : l.isEmpty = true) : l = [] := List.isEmpty_iff.mp h
noncomputable def isStrX (l : List Nat) (e : XE) : Bool := (vStr e).any fun r => decide (r.1.1 = st l)
noncomputable def isLocX (c : Sc) (i : Nat) (e : XE) : Bool := (vName e).any fun r => decide (c.names[i]? = some r.1.1) && c.lcl r.1.1
noncomputable def isRepl (y z : List Nat) (f : XE → Bool) (e : XE) : Bool := (vCall e).any fun r => (vAttr r.1.1).any fun t => decide (t.1.2.1 = ("replace" : Str)) && (f t.1.1 && ((t.1.2.2.endLine == r.1.2.2.line) && ((v2 r.1.2.1).any fun u => isStrX y u.1.1 && isStrX z u.1.2)))
noncomputable def isName (x : Str) (e : XE) : Bool := (vName e).any fun r => decide (r.1.1 = x)
noncomputable def isToInt (x : Str) (e : XE) : Bool := (vCall e).any fun f => isName (st (biName .toInt)) f.1.1 && ((v1 f.1.2.1).any fun y => isName x y.1)
noncomputable def compOk (sc : Scope) (x f : Str) (it : XE) : Bool := sc.names.all (fun y => y.2 != .free && y.2 != .cell && (y.2 != .local || sc.names.lookup y.1 == some .local)) && (decide (sc.names.lookup x = some .local) && (decide (sc.names.lookup f = some .globalImplicit) &&
  (decide (sc.kind = .function) && ((match it with | .Set .. => false | _ => true) && (decide (x ≠ f) && (x != ("__debug__" : Str)))))))
mutual
noncomputable def isE (c : Sc) : E → XE → Bool
  | .none, e => (vNone e).isSome
  | .bool b, e => (vBool e).any fun r => b == r.1.1
  | .int i, e => (vInt e).any fun r => decide (i = r.1.1)
  | .str l, e => isStrX l e
  | .loc i, e => isLocX c i e
  | .glob g, e => (vName e).any fun r => decide ((globName g).map st = some r.1.1) && c.glb r.1.1
  | .bop o a b, e => (vBin e).any fun r => bopIs o r.1.2.1 && (isE c a r.1.1 && isE c b r.1.2.2.1)
  | .cmp a o b, e => (vCmp e).any fun r => (v1 r.1.2.1).any fun op => (v1 r.1.2.2.1).any fun u => copIs o op.1 && (isE c a r.1.1 && (isE c b u.1 && !behindInMarks op.1 u.1))
  | .cmp2 a o b o' d, e => (vCmp e).any fun r => (v2 r.1.2.1).any fun op => (v2 r.1.2.2.1).any fun u => copIs o op.1.1 && (copIs o' op.1.2 && (isE c a r.1.1 && (isE c b u.1.1 && (isE c d u.1.2 && (!behindInMarks op.1.1 u.1.1 && !behindInMarks op.1.2 u.1.2)))))
  | .and l, e => (vAnd e).any fun r => isEs c l r.1.1
  | .or l, e => (vOr e).any fun r => isEs c l r.1.1
  | .not a, e => (vNot e).any fun r => isE c a r.1.1
  | .ite t a b, e => (vIte e).any fun r => isE c t r.1.1 && (isE c a r.1.2.1 && isE c b r.1.2.2.1)
  | .call f as, e => (vCall e).any fun r => (vName r.1.1).any fun x => decide ((fnName f).map st = some x.1.1) && (c.glb x.1.1 && isEs c as r.1.2.1)
  | .mk k as, e => (vCall e).any fun r => (vName r.1.1).any fun x => decide ((clsName k).map st = some x.1.1) && (c.glb x.1.1 && isEs c as r.1.2.1)
  | .bi b as, e => (vCall e).any fun r => (vName r.1.1).any fun x => decide (st (biName b) = x.1.1) && (c.glb x.1.1 && isEs c as r.1.2.1)
  | .meth o m as, e => (vCall e).any fun r => (vAttr r.1.1).any fun t => decide (t.1.2.1 = nm m) && (isE c o t.1.1 && (isEs c as r.1.2.1 && (notSuper t.1.1 && ((t.1.2.2.endLine == r.1.2.2.line) && decide (r.1.2.1.length < 29)))))
  | .spaced i, e => (vBin e).any fun r => bopIs .add r.1.2.1 && (isStrX [32, 32] r.1.1 && isRepl [41] [32, 41] (isRepl [40] [40, 32] (isRepl [32] [32, 9, 32] (isLocX c i))) r.1.2.2.1)
  | .attr o a, e => (vAttr e).any fun r => decide (r.1.2.1 = nm a) && (isE c o r.1.1 && notSuper r.1.1)
  | .sub o i, e => (vSub e).any fun r => isE c o r.1.1 && isE c i r.1.2.1
  | .sl2 o a b, e => (vSub e).any fun r => isE c o r.1.1 && ((vSl r.1.2.1).any fun t => t.1.1.any (isE c a) && t.1.2.1.any (isE c b))
  | .slFrom o a, e => (vSub e).any fun r => isE c o r.1.1 && ((vSl r.1.2.1).any fun t => t.1.1.any (isE c a) && t.1.2.1.isNone)
  | .slTo o b, e => (vSub e).any fun r => isE c o r.1.1 && ((vSl r.1.2.1).any fun t => t.1.1.isNone && t.1.2.1.any (isE c b))
  | .tup l, e => (vTup e).any fun r => isEs c l r.1.1
  | .lst l, e => (vLst e).any fun r => isEs c l r.1.1
  | .intcomp a, e => (vComp e).any fun r => (vGen r.1.2.1).any fun g => (vName g.1.1).any fun z => isToInt z.1.1 r.1.1 && (isE c a g.1.2 && compOk r.1.2.2.1 z.1.1 (st (biName .toInt)) g.1.2)
  | .bad, e => noStar e
noncomputable def isEs (c : Sc) : List E → List XE → Bool
  | [], l => l.isEmpty
  | x :: r, l => match l with | y :: q => isE c x y && (noStar y && isEs c r q) | [] => false
end
inductive IsNone  : XE → Prop
  | mk (k : Nat) (p : Pos)  : IsNone  (.Constant .none k p)
inductive IsBool (b : Bool) : XE → Prop
  | mk (k : Nat) (p : Pos)  : IsBool b (.Constant (.bool b) k p)
inductive IsInt (i : Int) : XE → Prop
  | mk (k : Nat) (p : Pos)  : IsInt i (.Constant (.int i) k p)
inductive IsStr (l : List Nat) : XE → Prop
  | mk (k : Nat) (p : Pos)  : IsStr l (.Constant (.str (st l)) k p)
inductive IsLoc (c : Sc) (i : Nat) : XE → Prop
  | mk (x : Str) (p : Pos) (h1 : c.names[i]? = some x) (h2 : c.lcl x = true) : IsLoc c i (.Name x p)
inductive IsGlob (c : Sc) (g : Nat) : XE → Prop
  | mk (x : Str) (p : Pos) (h1 : (globName g).map st = some x) (h2 : c.glb x = true) : IsGlob c g (.Name x p)
inductive IsRepl (y z : List Nat) (f : XE → Bool) : XE → Prop
  | mk (o : XE) (ap : Pos) (k1 : Nat) (p1 : Pos) (k2 : Nat) (p2 : Pos) (p : Pos) (h1 : f o = true) (h2 : (ap.endLine == p.line) = true) : IsRepl y z f (.Call (.Attribute o "replace" ap) [.Constant (.str (st y)) k1 p1, .Constant (.str (st z)) k2 p2] [] p)
inductive IsBop (c : Sc) (o : Bop) (x y : E) : XE → Prop
  | mk (l : XE) (op : Operator) (r : XE) (p : Pos) (h1 : bopIs o op = true) (h2 : isE c x l = true) (h3 : isE c y r = true) : IsBop c o x y (.BinOp l op r p)
inductive IsCmp (c : Sc) (o : Cop) (x y : E) : XE → Prop
  | mk (l : XE) (op : CmpOp) (r : XE) (p : Pos) (h1 : copIs o op = true) (h2 : isE c x l = true) (h3 : isE c y r = true) (h4 : behindInMarks op r = false) : IsCmp c o x y (.Compare l [op] [r] p)
inductive IsCmp2 (c : Sc) (o o' : Cop) (x y z : E) : XE → Prop
  | mk (l : XE) (op op' : CmpOp) (r u : XE) (p : Pos) (h1 : copIs o op = true) (h2 : copIs o' op' = true) (h3 : isE c x l = true) (h4 : isE c y r = true) (h5 : isE c z u = true) (h6 : behindInMarks op r = false) (h7 : behindInMarks op' u = false) : IsCmp2 c o o' x y z (.Compare l [op, op'] [r, u] p)
inductive IsAnd (c : Sc) (l : List E) : XE → Prop
  | mk (vs : List XE) (p : Pos) (h1 : isEs c l vs = true) : IsAnd c l (.BoolOp .And vs p)
inductive IsOr (c : Sc) (l : List E) : XE → Prop
  | mk (vs : List XE) (p : Pos) (h1 : isEs c l vs = true) : IsOr c l (.BoolOp .Or vs p)
inductive IsNot (c : Sc) (x : E) : XE → Prop
  | mk (y : XE) (p : Pos) (h1 : isE c x y = true) : IsNot c x (.UnaryOp .Not y p)
inductive IsIte (c : Sc) (t x y : E) : XE → Prop
  | mk (e0 e1 e2 : XE) (p : Pos) (h1 : isE c t e0 = true) (h2 : isE c x e1 = true) (h3 : isE c y e2 = true) : IsIte c t x y (.IfExp e0 e1 e2 p)
inductive IsCall (c : Sc) (f : Nat) (as : List E) : XE → Prop
  | mk (l : List Nat) (xp : Pos) (es : List XE) (p : Pos) (h1 : fnName f = some l) (h2 : c.glb (st l) = true) (h3 : isEs c as es = true) : IsCall c f as (.Call (.Name (st l) xp) es [] p)
inductive IsMk (c : Sc) (f : Nat) (as : List E) : XE → Prop
  | mk (l : List Nat) (xp : Pos) (es : List XE) (p : Pos) (h1 : clsName f = some l) (h2 : c.glb (st l) = true) (h3 : isEs c as es = true) : IsMk c f as (.Call (.Name (st l) xp) es [] p)
inductive IsBi (c : Sc) (b : Bi) (as : List E) : XE → Prop
  | mk (xp : Pos) (es : List XE) (p : Pos) (h1 : c.glb (st (biName b)) = true) (h2 : isEs c as es = true) : IsBi c b as (.Call (.Name (st (biName b)) xp) es [] p)
inductive IsMeth (c : Sc) (x : E) (m : Nat) (as : List E) : XE → Prop
  | mk (o : XE) (ap : Pos) (es : List XE) (p : Pos) (h1 : isE c x o = true) (h2 : isEs c as es = true) (h3 : notSuper o = true) (h4 : (ap.endLine == p.line) = true) (h5 : es.length < 29) : IsMeth c x m as (.Call (.Attribute o (nm m) ap) es [] p)
inductive IsSpaced (c : Sc) (i : Nat) : XE → Prop
  | mk (k0 : Nat) (p0 : Pos) (r : XE) (p : Pos) (h1 : isRepl [41] [32, 41] (isRepl [40] [40, 32] (isRepl [32] [32, 9, 32] (isLocX c i))) r = true) : IsSpaced c i (.BinOp (.Constant (.str (st [32, 32])) k0 p0) .Add r p)
inductive IsAttr (c : Sc) (x : E) (f : Nat) : XE → Prop
  | mk (o : XE) (p : Pos) (h1 : isE c x o = true) (h2 : notSuper o = true) : IsAttr c x f (.Attribute o (nm f) p)
inductive IsSub (c : Sc) (x y : E) : XE → Prop
  | mk (e1 e2 : XE) (p : Pos) (h1 : isE c x e1 = true) (h2 : isE c y e2 = true) : IsSub c x y (.Subscript e1 e2 p)
inductive IsSl2 (c : Sc) (x y z : E) : XE → Prop
  | mk (e1 e2 e3 : XE) (q : Pos) (p : Pos) (h1 : isE c x e1 = true) (h2 : isE c y e2 = true) (h3 : isE c z e3 = true) : IsSl2 c x y z (.Subscript e1 (.Slice (some e2) (some e3) none q) p)
inductive IsSlF (c : Sc) (x y : E) : XE → Prop
  | mk (e1 e2 : XE) (q : Pos) (p : Pos) (h1 : isE c x e1 = true) (h2 : isE c y e2 = true) : IsSlF c x y (.Subscript e1 (.Slice (some e2) none none q) p)
inductive IsSlT (c : Sc) (x y : E) : XE → Prop
  | mk (e1 e2 : XE) (q : Pos) (p : Pos) (h1 : isE c x e1 = true) (h2 : isE c y e2 = true) : IsSlT c x y (.Subscript e1 (.Slice none (some e2) none q) p)
inductive IsTup (c : Sc) (l : List E) : XE → Prop
  | mk (es : List XE) (k : Nat) (p : Pos) (h1 : isEs c l es = true) : IsTup c l (.Tuple es k p)
inductive IsLst (c : Sc) (l : List E) : XE → Prop
  | mk (es : List XE) (p : Pos) (h1 : isEs c l es = true) : IsLst c l (.List es p)
inductive IsComp (c : Sc) (x : E) : XE → Prop
  | mk (fp : Pos) (y : Str) (yp cp zp : Pos) (it : XE) (sc : Scope) (p : Pos) (h1 : isE c x it = true) (h2 : compOk sc y (st (biName .toInt)) it = true) : IsComp c x (.ListComp (.Call (.Name (st (biName .toInt)) fp) [.Name y yp] [] cp) [⟨.Name y zp, it, [], 0⟩] sc p)
inductive IsCons (c : Sc) (x : E) (r : List E) : List XE → Prop
  | mk (y : XE) (q : List XE) (h1 : isE c x y = true) (h2 : noStar y = true) (h3 : isEs c r q = true) : IsCons c x r (y :: q)
section
variable {c : Sc}
theorem isName_inv {x : Str} {e : XE} (h : isName x e = true) : ∃ p, e = .Name x p := by
  obtain ⟨⟨⟨y, p⟩, e0⟩, g0⟩ := any_inv h
  clear h
  subst e0
  obtain rfl := dec_inv g0
  exact ⟨_, rfl⟩
theorem isToInt_inv {x : Str} {e : XE} (h : isToInt x e = true) : ∃ fp yp cp, e = .Call (.Name (st (biName .toInt)) fp) [.Name x yp] [] cp := by
  obtain ⟨⟨⟨f, l, p⟩, e0⟩, g0⟩ := any_inv h
  clear h
  subst e0
  obtain ⟨h1, g1⟩ := and_inv g0
  clear g0
  obtain ⟨⟨y, e0⟩, g2⟩ := any_inv g1
  clear g1
  obtain ⟨fp, e1⟩ := isName_inv h1
  obtain ⟨yp, e2⟩ := isName_inv g2
  exact ⟨fp, yp, p, by rw [show l = [y] from e0, show f = _ from e1, show y = _ from e2]⟩
theorem isE_none {e : XE} (h : isE c .none e = true) : IsNone e := by
  obtain ⟨⟨q, rfl⟩, _⟩ := Option.isSome_iff_exists.mp h
  exact .mk ..
theorem isE_bool {b : Bool} {e : XE} (h : isE c (.bool b) e = true) : IsBool b e := by
  obtain ⟨⟨q, e0⟩, g0⟩ := any_inv h
  clear h
  subst e0
  rw [← beq_iff_eq.mp g0]
  exact .mk ..
theorem isE_int {i : Int} {e : XE} (h : isE c (.int i) e = true) : IsInt i e := by
  obtain ⟨⟨q, e0⟩, g0⟩ := any_inv h
  clear h
  subst e0
  rw [← dec_inv g0]
  exact .mk ..
theorem isStrX_inv {l : List Nat} {e : XE} (h : isStrX l e = true) : IsStr l e := by
  obtain ⟨⟨q, e0⟩, g0⟩ := any_inv h
  clear h
  subst e0
  rw [dec_inv g0]
  exact .mk ..
theorem isLocX_inv {i : Nat} {e : XE} (h : isLocX c i e = true) : IsLoc c i e := by
  obtain ⟨⟨q, e0⟩, g0⟩ := any_inv h
  clear h
  subst e0
  obtain ⟨h1, g1⟩ := and_inv g0
  clear g0
  exact .mk _ _ (dec_inv h1) g1
theorem isE_glob {g : Nat} {e : XE} (h : isE c (.glob g) e = true) : IsGlob c g e := by
  obtain ⟨⟨q, e0⟩, g0⟩ := any_inv h
  clear h
  subst e0
  obtain ⟨h1, g1⟩ := and_inv g0
  clear g0
  exact .mk _ _ (dec_inv h1) g1
theorem isRepl_inv {y z : List Nat} {f : XE → Bool} {e : XE} (h : isRepl y z f e = true) : IsRepl y z f e := by
  obtain ⟨⟨⟨t, l, p⟩, e0⟩, g0⟩ := any_inv h
  clear h
  subst e0
  obtain ⟨⟨⟨x, n, ap⟩, e⟩, g1⟩ := any_inv g0
  clear g0
  obtain ⟨h1, g2⟩ := and_inv g1
  clear g1
  obtain ⟨h2, g3⟩ := and_inv g2
  clear g2
  obtain ⟨h3, g4⟩ := and_inv g3
  clear g3
  obtain ⟨⟨⟨u, v⟩, e1⟩, g5⟩ := any_inv g4
  clear g4
  obtain ⟨h4, g6⟩ := and_inv g5
  clear g5
  dsimp only at e e1 h1 h2 h3 h4 g6 ⊢
  obtain ⟨k1, p1⟩ := isStrX_inv h4
  obtain ⟨k2, p2⟩ := isStrX_inv g6
  clear h4 g6
  subst e e1
  obtain rfl := dec_inv h1
  exact .mk _ _ _ _ _ _ _ h2 h3
theorem isE_bop {o : Bop} {x y : E} {e : XE} (h : isE c (.bop o x y) e = true) : IsBop c o x y e := by
  obtain ⟨⟨q, e0⟩, g0⟩ := any_inv h
  clear h
  subst e0
  obtain ⟨h1, g1⟩ := and_inv g0
  clear g0
  obtain ⟨h2, g2⟩ := and_inv g1
  clear g1
  exact .mk _ _ _ _ h1 h2 g2
theorem isE_cmp {o : Cop} {x y : E} {e : XE} (h : isE c (.cmp x o y) e = true) : IsCmp c o x y e := by
  obtain ⟨⟨⟨l, o, r, p⟩, e0⟩, g0⟩ := any_inv h
  clear h
  subst e0
  obtain ⟨⟨op, e1⟩, g1⟩ := any_inv g0
  clear g0
  obtain ⟨⟨u, e2⟩, g2⟩ := any_inv g1
  clear g1
  dsimp only at e1 e2 g2 ⊢
  subst e1 e2
  obtain ⟨h1, g3⟩ := and_inv g2
  clear g2
  obtain ⟨h2, g4⟩ := and_inv g3
  clear g3
  obtain ⟨h3, g5⟩ := and_inv g4
  clear g4
  exact .mk _ _ _ _ h1 h2 h3 (not_inv g5)
theorem isE_cmp2 {o o' : Cop} {x y z : E} {e : XE} (h : isE c (.cmp2 x o y o' z) e = true) : IsCmp2 c o o' x y z e := by
  obtain ⟨⟨⟨l, o, r, p⟩, e0⟩, g0⟩ := any_inv h
  clear h
  subst e0
  obtain ⟨⟨⟨op, op2⟩, e1⟩, g1⟩ := any_inv g0
  clear g0
  obtain ⟨⟨⟨u, v⟩, e2⟩, g2⟩ := any_inv g1
  clear g1
  dsimp only at e1 e2 g2 ⊢
  subst e1 e2
  obtain ⟨h1, g3⟩ := and_inv g2
  clear g2
  obtain ⟨h2, g4⟩ := and_inv g3
  clear g3
  obtain ⟨h3, g5⟩ := and_inv g4
  clear g4
  obtain ⟨h4, g6⟩ := and_inv g5
  clear g5
  obtain ⟨h5, g7⟩ := and_inv g6
  clear g6
  obtain ⟨h6, g8⟩ := and_inv g7
  clear g7
  exact .mk _ _ _ _ _ _ h1 h2 h3 h4 h5 (not_inv h6) (not_inv g8)
theorem isE_and {l : List E} {e : XE} (h : isE c (.and l) e = true) : IsAnd c l e := by
  obtain ⟨⟨q, e0⟩, g0⟩ := any_inv h
  clear h
  subst e0
  exact .mk _ _ g0
theorem isE_or {l : List E} {e : XE} (h : isE c (.or l) e = true) : IsOr c l e := by
  obtain ⟨⟨q, e0⟩, g0⟩ := any_inv h
  clear h
  subst e0
  exact .mk _ _ g0
theorem isE_not {x : E} {e : XE} (h : isE c (.not x) e = true) : IsNot c x e := by
  obtain ⟨⟨q, e0⟩, g0⟩ := any_inv h
  clear h
  subst e0
  exact .mk _ _ g0
theorem isE_ite {t x y : E} {e : XE} (h : isE c (.ite t x y) e = true) : IsIte c t x y e := by
  obtain ⟨⟨q, e0⟩, g0⟩ := any_inv h
  clear h
  subst e0
  obtain ⟨h1, g1⟩ := and_inv g0
  clear g0
  obtain ⟨h2, g2⟩ := and_inv g1
  clear g1
  exact .mk _ _ _ _ h1 h2 g2
theorem isE_call {f : Nat} {as : List E} {e : XE} (h : isE c (.call f as) e = true) : IsCall c f as e := by
  obtain ⟨⟨⟨f, l, p⟩, e0⟩, g0⟩ := any_inv h
  clear h
  subst e0
  obtain ⟨⟨⟨n, np⟩, e⟩, g1⟩ := any_inv g0
  clear g0
  dsimp only at e g1 ⊢
  subst e
  obtain ⟨h1, g2⟩ := and_inv g1
  clear g1
  obtain ⟨h2, g3⟩ := and_inv g2
  clear g2
  obtain ⟨n, e1, rfl⟩ := Option.map_eq_some_iff.mp (dec_inv h1)
  exact .mk _ _ _ _ e1 h2 g3
theorem isE_mk {f : Nat} {as : List E} {e : XE} (h : isE c (.mk f as) e = true) : IsMk c f as e := by
  obtain ⟨⟨⟨f, l, p⟩, e0⟩, g0⟩ := any_inv h
  clear h
  subst e0
  obtain ⟨⟨⟨n, np⟩, e⟩, g1⟩ := any_inv g0
  clear g0
  dsimp only at e g1 ⊢
  subst e
  obtain ⟨h1, g2⟩ := and_inv g1
  clear g1
  obtain ⟨h2, g3⟩ := and_inv g2
  clear g2
  obtain ⟨n, e1, rfl⟩ := Option.map_eq_some_iff.mp (dec_inv h1)
  exact .mk _ _ _ _ e1 h2 g3
theorem isE_bi {b : Bi} {as : List E} {e : XE} (h : isE c (.bi b as) e = true) : IsBi c b as e := by
  obtain ⟨⟨⟨f, l, p⟩, e0⟩, g0⟩ := any_inv h
  clear h
  subst e0
  obtain ⟨⟨⟨n, np⟩, e⟩, g1⟩ := any_inv g0
  clear g0
  dsimp only at e g1 ⊢
  subst e
  obtain ⟨h1, g2⟩ := and_inv g1
  clear g1
  obtain ⟨h2, g3⟩ := and_inv g2
  clear g2
  obtain rfl := dec_inv h1
  exact .mk _ _ _ h2 g3
theorem isE_meth {o : E} {m : Nat} {as : List E} {e : XE} (h : isE c (.meth o m as) e = true) : IsMeth c o m as e := by
  obtain ⟨⟨⟨f, l, p⟩, e0⟩, g0⟩ := any_inv h
  clear h
  subst e0
  obtain ⟨⟨⟨x, n, ap⟩, e⟩, g1⟩ := any_inv g0
  clear g0
  dsimp only at e g1 ⊢
  subst e
  obtain ⟨h1, g2⟩ := and_inv g1
  clear g1
  obtain ⟨h2, g3⟩ := and_inv g2
  clear g2
  obtain ⟨h3, g4⟩ := and_inv g3
  clear g3
  obtain ⟨h4, g5⟩ := and_inv g4
  clear g4
  obtain ⟨h5, g6⟩ := and_inv g5
  clear g5
  obtain rfl := dec_inv h1
  exact .mk _ _ _ _ h2 h3 h4 h5 (dec_inv g6)
theorem isE_spaced {i : Nat} {e : XE} (h : isE c (.spaced i) e = true) : IsSpaced c i e := by
  obtain ⟨⟨⟨l, o, r, p⟩, e0⟩, g0⟩ := any_inv h
  clear h
  subst e0
  dsimp only at g0 ⊢
  obtain ⟨h1, g1⟩ := and_inv g0
  clear g0
  obtain ⟨h2, g2⟩ := and_inv g1
  clear g1
  obtain ⟨k0, p0⟩ := isStrX_inv h2
  have e1 : o = .Add := dec_inv h1
  subst e1
  exact .mk _ _ _ _ g2
theorem isE_attr {x : E} {f : Nat} {e : XE} (h : isE c (.attr x f) e = true) : IsAttr c x f e := by
  obtain ⟨⟨⟨o, n, p⟩, e0⟩, g0⟩ := any_inv h
  clear h
  subst e0
  dsimp only at g0 ⊢
  obtain ⟨h1, g1⟩ := and_inv g0
  clear g0
  obtain ⟨h2, g2⟩ := and_inv g1
  clear g1
  obtain rfl := dec_inv h1
  exact .mk _ _ h2 g2
theorem isE_sub {x y : E} {e : XE} (h : isE c (.sub x y) e = true) : IsSub c x y e := by
  obtain ⟨⟨q, e0⟩, g0⟩ := any_inv h
  clear h
  subst e0
  obtain ⟨h1, g1⟩ := and_inv g0
  clear g0
  exact .mk _ _ _ h1 g1
theorem isE_sl2 {x y z : E} {e : XE} (h : isE c (.sl2 x y z) e = true) : IsSl2 c x y z e := by
  obtain ⟨⟨⟨l, s, p⟩, e0⟩, g0⟩ := any_inv h
  clear h
  subst e0
  dsimp only at g0 ⊢
  obtain ⟨h1, g1⟩ := and_inv g0
  clear g0
  obtain ⟨⟨⟨u, v, q⟩, e⟩, g2⟩ := any_inv g1
  clear g1
  dsimp only at e g2
  subst e
  obtain ⟨h2, g3⟩ := and_inv g2
  clear g2
  obtain ⟨u, rfl, h2⟩ := opt_inv h2
  obtain ⟨v, e0, g4⟩ := opt_inv g3
  clear g3
  subst e0
  exact .mk _ _ _ _ _ h1 h2 g4
theorem isE_slFrom {x y : E} {e : XE} (h : isE c (.slFrom x y) e = true) : IsSlF c x y e := by
  obtain ⟨⟨⟨l, s, p⟩, e0⟩, g0⟩ := any_inv h
  clear h
  subst e0
  dsimp only at g0 ⊢
  obtain ⟨h1, g1⟩ := and_inv g0
  clear g0
  obtain ⟨⟨⟨u, v, q⟩, e⟩, g2⟩ := any_inv g1
  clear g1
  dsimp only at e g2
  subst e
  obtain ⟨h2, g3⟩ := and_inv g2
  clear g2
  obtain ⟨u, rfl, h2⟩ := opt_inv h2
  obtain rfl := Option.isNone_iff_eq_none.mp g3
  exact .mk _ _ _ _ h1 h2
theorem isE_slTo {x y : E} {e : XE} (h : isE c (.slTo x y) e = true) : IsSlT c x y e := by
  obtain ⟨⟨⟨l, s, p⟩, e0⟩, g0⟩ := any_inv h
  clear h
  subst e0
  dsimp only at g0 ⊢
  obtain ⟨h1, g1⟩ := and_inv g0
  clear g0
  obtain ⟨⟨⟨u, v, q⟩, e⟩, g2⟩ := any_inv g1
  clear g1
  dsimp only at e g2
  subst e
  obtain ⟨h2, g3⟩ := and_inv g2
  clear g2
  obtain ⟨u, e0, g4⟩ := opt_inv g3
  clear g3
  subst e0
  obtain rfl := Option.isNone_iff_eq_none.mp h2
  exact .mk _ _ _ _ h1 g4
theorem isE_tup {l : List E} {e : XE} (h : isE c (.tup l) e = true) : IsTup c l e := by
  obtain ⟨⟨q, e0⟩, g0⟩ := any_inv h
  clear h
  subst e0
  exact .mk _ _ _ g0
theorem isE_lst {l : List E} {e : XE} (h : isE c (.lst l) e = true) : IsLst c l e := by
  obtain ⟨⟨q, e0⟩, g0⟩ := any_inv h
  clear h
  subst e0
  exact .mk _ _ g0
theorem isE_intcomp {x : E} {e : XE} (h : isE c (.intcomp x) e = true) : IsComp c x e := by
  obtain ⟨⟨⟨f, g, sc, p⟩, e0⟩, g0⟩ := any_inv h
  clear h
  subst e0
  obtain ⟨⟨⟨t, it⟩, e⟩, g1⟩ := any_inv g0
  clear g0
  dsimp only at e
  obtain ⟨⟨⟨z, zp⟩, e1⟩, g2⟩ := any_inv g1
  clear g1
  dsimp only at e1
  obtain ⟨h1, g3⟩ := and_inv g2
  clear g2
  obtain ⟨h2, g4⟩ := and_inv g3
  clear g3
  obtain ⟨fp, yp, cp, e2⟩ := isToInt_inv h1
  dsimp only at e2 h2 g4 ⊢
  subst e e1 e2
  exact .mk _ _ _ _ _ _ _ _ h2 g4
theorem isEs_cons {x : E} {r : List E} {l : List XE} (h : isEs c (x :: r) l = true) : IsCons c x r l := by
  cases l with
  | nil => exact Bool.noConfusion h
  | cons y q =>
    obtain ⟨h1, h2⟩ := and_inv h
    obtain ⟨h2, h3⟩ := and_inv h2
    exact .mk y q h1 h2 h3
theorem isEs_nil {l : List XE} (h : isEs c [] l = true) : l = [] := nil_inv h
theorem isEs_of {x : E} {r : List E} {y : XE} {q : List XE} (h1 : isE c x y = true) (h2 : noStar y = true) (h3 : isEs c r q = true) : isEs c (x :: r) (y :: q) = true := by
  show (isE c x y && (noStar y && isEs c r q)) = true
  rw [h1, h2, h3]; rfl
theorem isE_of_str {l : List Nat} {k : Nat} {p : Pos} : isE c (.str l) (.Constant (.str (st l)) k p) = true := decide_eq_true (p := st l = st l) rfl
theorem isE_of_loc {i : Nat} {x : Str} {p : Pos} (h1 : c.names[i]? = some x) (h2 : c.lcl x = true) : isE c (.loc i) (.Name x p) = true := by
  show (decide (c.names[i]? = some x) && c.lcl x) = true
  rw [decide_eq_true h1, h2]; rfl
end
/-- what an own __init__ lays of a line -/
noncomputable def iniIs (c : Sc) (s : Ini) (v : XE) : Bool := match s with
  | .par k => (vName v).any fun y => decide (0 < k) && (decide (c.names[k]? = some y.1.1) && c.lcl y.1.1)
  | .int i => (vInt v).any fun j => decide (i = j.1.1)
  | .str t => isStrX t v
/-- a line: self.n = v -/
noncomputable def selfIs (s n : Str) (f : XE → Bool) (e : XS) : Bool := (vAsg e).any fun r => (vAttr r.1.1).any fun u => decide (u.1.2.1 = n) && ((vName u.1.1).any fun x => decide (x.1.1 = s) && f r.1.2.1)
inductive IsSelf (s n : Str) (f : XE → Bool) : XS → Prop
  | mk (sp ap : Pos) (v : XE) (p : Pos) (h1 : f v = true) : IsSelf s n f (.Assign [.Attribute (.Name s sp) n ap] v p)
theorem selfIs_inv {s n : Str} {f : XE → Bool} {e : XS} (h : selfIs s n f e = true) : IsSelf s n f e := by
  obtain ⟨⟨⟨t, v, p⟩, e0⟩, g0⟩ := any_inv h
  clear h
  subst e0
  dsimp only at g0 ⊢
  obtain ⟨⟨⟨o, m, ap⟩, e⟩, g1⟩ := any_inv g0
  clear g0
  dsimp only at e g1
  subst e
  obtain ⟨h1, g2⟩ := and_inv g1
  clear g1
  obtain ⟨⟨⟨x, sp⟩, e⟩, g3⟩ := any_inv g2
  clear g2
  dsimp only at e g3
  subst e
  obtain ⟨h2, g4⟩ := and_inv g3
  clear g3
  obtain rfl := dec_inv h1
  obtain rfl := dec_inv h2
  exact .mk _ _ _ _ g4
/-- an own __init__: each line lays a field -/
noncomputable def isIni (c : Sc) : List (Nat × Ini) → List XS → Bool
  | [], l => l.isEmpty
  | (f, s) :: r, l => match l with
    | y :: q => c.names.head?.any (fun n => selfIs n (nm f) (iniIs c s) y && c.lcl n) && isIni c r q
    | [] => false
inductive IsIniC (c : Sc) (f : Nat) (s : Ini) (r : List (Nat × Ini)) : List XS → Prop
  | mk (y : Str) (yp ap : Pos) (v : XE) (p : Pos) (q : List XS) (h1 : c.names[0]? = some y) (h2 : c.lcl y = true) (h3 : isIni c r q = true) (h4 : iniIs c s v = true) : IsIniC c f s r (.Assign [.Attribute (.Name y yp) (nm f) ap] v p :: q)
theorem isIni_cons {c : Sc} {f : Nat} {s : Ini} {r : List (Nat × Ini)} {l : List XS} (h : isIni c ((f, s) :: r) l = true) : IsIniC c f s r l := by
  cases l with
  | nil => exact Bool.noConfusion h
  | cons y q =>
    obtain ⟨h1, h2⟩ := and_inv h
    obtain ⟨n, e, h1⟩ := opt_inv h1
    obtain ⟨h1, h3⟩ := and_inv h1
    obtain ⟨sp, ap, v, p, h4⟩ := selfIs_inv h1
    exact .mk _ _ _ _ _ _ (by rw [← List.head?_eq_getElem?]; exact e) h3 h2 h4
/-- the errors' __init__ -/
noncomputable def isExcCall (s1 w1 : Str) (e : XE) : Bool := (vCall e).any fun f => (vAttr f.1.1).any fun m => isName "Exception" m.1.1 && (decide (m.1.2.1 = ("__init__" : Str)) && ((m.1.2.2.endLine == f.1.2.2.line) && ((v2 f.1.2.1).any fun as => isName s1 as.1.1 && isName w1 as.1.2)))
inductive IsExcCall (s1 w1 : Str) : XE → Prop
  | mk (xp ap s1p w1p : Pos) (p : Pos) (h1 : (ap.endLine == p.line) = true) : IsExcCall s1 w1 (.Call (.Attribute (.Name "Exception" xp) "__init__" ap) [.Name s1 s1p, .Name w1 w1p] [] p)
theorem isExcCall_inv {s1 w1 : Str} {e : XE} (h : isExcCall s1 w1 e = true) : IsExcCall s1 w1 e := by
  obtain ⟨⟨⟨f, l, p⟩, e0⟩, g0⟩ := any_inv h
  clear h
  subst e0
  dsimp only at g0 ⊢
  obtain ⟨⟨⟨x, n, ap⟩, e⟩, g1⟩ := any_inv g0
  clear g0
  dsimp only at e g1
  subst e
  obtain ⟨h1, g2⟩ := and_inv g1
  clear g1
  obtain ⟨h2, g3⟩ := and_inv g2
  clear g2
  obtain ⟨h3, g4⟩ := and_inv g3
  clear g3
  obtain ⟨⟨⟨u, v⟩, e⟩, g5⟩ := any_inv g4
  clear g4
  dsimp only at e g5
  subst e
  obtain ⟨h4, h5⟩ := and_inv g5
  obtain ⟨xp, rfl⟩ := isName_inv h1
  obtain ⟨p1, rfl⟩ := isName_inv h4
  obtain ⟨p2, rfl⟩ := isName_inv h5
  obtain rfl := dec_inv h2
  exact .mk _ _ _ _ _ h3
noncomputable def isErrIni (c : Sc) (body : List XS) : Bool := (v3 body).any fun b => (v3 c.names).any fun n => (vExp b.1.1).any fun e => isExcCall n.1.1 n.1.2.1 e.1.1 && (selfIs n.1.1 "what" (isName n.1.2.1) b.1.2.1 && (selfIs n.1.1 "at" (isName n.1.2.2) b.1.2.2 &&
  (c.glb "Exception" && (c.lcl n.1.1 && (c.lcl n.1.2.1 && c.lcl n.1.2.2)))))
inductive IsErrIni (c : Sc) : List XS → Prop
  | mk (xp ap : Pos) (s1 : Str) (s1p : Pos) (w1 : Str) (w1p pos pos1 s2p t1 w2p pos2 s3p t2 : Pos) (a1 : Str) (a1p pos3 : Pos) (h1 : c.glb "Exception" = true) (h2 : c.names = [s1, w1, a1]) (h3 : c.lcl s1 = true) (h4 : c.lcl w1 = true) (h5 : c.lcl a1 = true) (h6 : (ap.endLine == pos.line) = true) : IsErrIni c [.Expr (.Call (.Attribute (.Name "Exception" xp) "__init__" ap) [.Name s1 s1p, .Name w1 w1p] [] pos) pos1, .Assign [.Attribute (.Name s1 s2p) "what" t1] (.Name w1 w2p) pos2, .Assign [.Attribute (.Name s1 s3p) "at" t2] (.Name a1 a1p) pos3]
theorem isErrIni_is {c : Sc} {body : List XS} (h : isErrIni c body = true) : IsErrIni c body := by
  obtain ⟨⟨⟨b1, b2, b3⟩, e0⟩, g0⟩ := any_inv h
  clear h
  subst e0
  dsimp only at g0 ⊢
  obtain ⟨⟨⟨n1, n2, n3⟩, en⟩, g1⟩ := any_inv g0
  clear g0
  dsimp only at g1 en
  obtain ⟨⟨⟨e, p⟩, e'⟩, g2⟩ := any_inv g1
  clear g1
  dsimp only at e' g2
  subst e'
  obtain ⟨h1, g3⟩ := and_inv g2
  clear g2
  obtain ⟨h2, g4⟩ := and_inv g3
  clear g3
  obtain ⟨h3, g5⟩ := and_inv g4
  clear g4
  obtain ⟨h4, g6⟩ := and_inv g5
  clear g5
  obtain ⟨h5, g7⟩ := and_inv g6
  clear g6
  obtain ⟨h6, h7⟩ := and_inv g7
  obtain ⟨xp, ap, s1p, w1p, pos, h8⟩ := isExcCall_inv h1
  obtain ⟨sp2, ap2, v2, p2, f2⟩ := selfIs_inv h2
  obtain ⟨sp3, ap3, v3, p3, f3⟩ := selfIs_inv h3
  obtain ⟨q2, rfl⟩ := isName_inv f2
  obtain ⟨q3, rfl⟩ := isName_inv f3
  exact .mk _ _ _ _ _ _ _ _ _ _ _ _ _ _ _ _ _ h4 en h5 h6 h7 h8
noncomputable def isRetTup (l : List Nat) (e : XS) : Bool := (vRet e).any fun q => (vTup q.1.1).any fun y => (v1 y.1.1).any fun z => isStrX l z.1
noncomputable def isHnd (l : List Nat) (h : ExceptHandler) : Bool := (vHnd h).any fun t => isName "ReadError" t.1.1 && isRetTup l t.1.2.1
noncomputable def isRErr (c : Sc) (f : XE × XE → Bool) (e : XE) : Bool := (vCall e).any fun r => isName "ReadError" r.1.1 && ((v2 r.1.2.1).any fun as => f as.1)
noncomputable def notSet (e : XE) : Bool := match e with | .Set .. => false | _ => true
noncomputable def nameOfX (e : XE) : Option Str := (vName e).map fun r => r.1.1
mutual
noncomputable def isS (c : Sc) : S → XS → Bool
  | .asg i e, s => (vAsg s).any fun r => isLocX c i r.1.1 && (plainX r.1.2.1 && isE c e r.1.2.1)
  | .asg2 i j e, s => (vAsg s).any fun r => (vTup r.1.1).any fun u => (v2 u.1.1).any fun x => isLocX c i x.1.1 && (isLocX c j x.1.2 && (decide (nameOfX x.1.1 ≠ nameOfX x.1.2) && (isCall r.1.2.1 && isE c e r.1.2.1)))
  | .setattr o a e, s => (vAsg s).any fun r => (vAttr r.1.1).any fun u => decide (u.1.2.1 = nm a) && (isE c o u.1.1 && (plainX r.1.2.1 && isE c e r.1.2.1))
  | .setitem o i e, s => (vAsg s).any fun r => (vSub r.1.1).any fun u => isE c o u.1.1 && (isE c i u.1.2.1 && (plainX u.1.2.1 && (plainX r.1.2.1 && isE c e r.1.2.1)))
  | .expr e, s => (vExp s).any fun r => isE c e r.1.1 && isCall r.1.1
  | .ife t a b, s => (vIf s).any fun r => isE c t r.1.1 && (isSs c a r.1.2.1 && isSs c b r.1.2.2.1)
  | .whl t b, s => (vWhl s).any fun r => isE c t r.1.1 && isSs c b r.1.2.1
  | .forr i it b, s => (vFor s).any fun r => isLocX c i r.1.1 && (isE c it r.1.2.1 && (notSet r.1.2.1 && isSs c b r.1.2.2.1))
  | .ret e, s => (vRet s).any fun r => isE c e r.1.1
  | .raise a b, s => (vRai s).any fun r => c.glb "ReadError" && isRErr c (fun as => isE c a as.1 && (noStar as.1 && (isE c b as.2 && noStar as.2))) r.1.1
  | .tryr b l, s => (vTry s).any fun r => isSs c b r.1.1 && (c.glb "ReadError" && isHnd l r.1.2.1)
  | .bad, _ => true
noncomputable def isSs (c : Sc) : List S → List XS → Bool
  | [], l => l.isEmpty
  | x :: r, l => match l with | y :: q => isS c x y && isSs c r q | [] => false
end
inductive IsAsg (c : Sc) (i : Nat) (x : E) : XS → Prop
  | mk (n : Str) (xp : Pos) (v : XE) (p : Pos) (h1 : c.names[i]? = some n) (h2 : c.lcl n = true) (h3 : plainX v = true) (h4 : isE c x v = true) : IsAsg c i x (.Assign [.Name n xp] v p)
inductive IsAsg2 (c : Sc) (i j : Nat) (x : E) : XS → Prop
  | mk (n : Str) (xp : Pos) (n' : Str) (xp' : Pos) (k : Nat) (tp : Pos) (v : XE) (p : Pos) (h1 : c.names[i]? = some n) (h2 : c.lcl n = true) (h3 : c.names[j]? = some n') (h4 : c.lcl n' = true) (h5 : n ≠ n') (h6 : isCall v = true) (h7 : isE c x v = true) : IsAsg2 c i j x (.Assign [.Tuple [.Name n xp, .Name n' xp'] k tp] v p)
inductive IsSetA (c : Sc) (o : E) (f : Nat) (x : E) : XS → Prop
  | mk (t : XE) (tp : Pos) (v : XE) (p : Pos) (h1 : isE c o t = true) (h2 : plainX v = true) (h3 : isE c x v = true) : IsSetA c o f x (.Assign [.Attribute t (nm f) tp] v p)
inductive IsSetI (c : Sc) (o i x : E) : XS → Prop
  | mk (t k : XE) (tp : Pos) (v : XE) (p : Pos) (h1 : isE c o t = true) (h2 : isE c i k = true) (h3 : plainX k = true) (h4 : plainX v = true) (h5 : isE c x v = true) : IsSetI c o i x (.Assign [.Subscript t k tp] v p)
inductive IsExp (c : Sc) (x : E) : XS → Prop
  | mk (v : XE) (p : Pos) (h1 : isE c x v = true) (h2 : isCall v = true) : IsExp c x (.Expr v p)
inductive IsIf (c : Sc) (t : E) (x y : List S) : XS → Prop
  | mk (t' : XE) (x' y' : List XS) (p : Pos) (h1 : isE c t t' = true) (h2 : isSs c x x' = true) (h3 : isSs c y y' = true) : IsIf c t x y (.If t' x' y' p)
inductive IsWhl (c : Sc) (t : E) (b : List S) : XS → Prop
  | mk (t' : XE) (b' : List XS) (p : Pos) (h1 : isE c t t' = true) (h2 : isSs c b b' = true) : IsWhl c t b (.While t' b' [] p)
inductive IsFor (c : Sc) (i : Nat) (t : E) (b : List S) : XS → Prop
  | mk (x : Str) (xp : Pos) (t' : XE) (b' : List XS) (p : Pos) (h1 : c.names[i]? = some x) (h2 : c.lcl x = true) (h3 : isE c t t' = true) (h4 : notSet t' = true) (h5 : isSs c b b' = true) : IsFor c i t b (.For (.Name x xp) t' b' [] p)
inductive IsRet (c : Sc) (x : E) : XS → Prop
  | mk (v : XE) (p : Pos) (h1 : isE c x v = true) : IsRet c x (.Return (some v) p)
inductive IsRai (c : Sc) (x y : E) : XS → Prop
  | mk (np : Pos) (e1 e2 : XE) (cp : Pos) (p : Pos) (h1 : c.glb "ReadError" = true) (h2 : isE c x e1 = true) (h3 : noStar e1 = true) (h4 : isE c y e2 = true) (h5 : noStar e2 = true) : IsRai c x y (.Raise (some (.Call (.Name "ReadError" np) [e1, e2] [] cp)) none p)
inductive IsTry (c : Sc) (b : List S) (l : List Nat) : XS → Prop
  | mk (b' : List XS) (np : Pos) (k2 : Nat) (p2 : Pos) (k3 : Nat) (p3 p4 p5 : Pos) (p : Pos) (h1 : isSs c b b' = true) (h2 : c.glb "ReadError" = true) : IsTry c b l (.Try b' [.ExceptHandler (some (.Name "ReadError" np)) none [.Return (some (.Tuple [.Constant (.str (st l)) k2 p2] k3 p3)) p4] p5] [] [] p)
inductive IsSsC (c : Sc) (x : S) (r : List S) : List XS → Prop
  | mk (y : XS) (q : List XS) (h1 : isS c x y = true) (h2 : isSs c r q = true) : IsSsC c x r (y :: q)
section
variable {c : Sc}
theorem isS_asg {i : Nat} {x : E} {e : XS} (h : isS c (.asg i x) e = true) : IsAsg c i x e := by
  obtain ⟨⟨⟨t, v, p⟩, e0⟩, g0⟩ := any_inv h
  clear h
  subst e0
  dsimp only at g0 ⊢
  obtain ⟨h1, g1⟩ := and_inv g0
  clear g0
  obtain ⟨h2, g2⟩ := and_inv g1
  clear g1
  obtain ⟨n, xp, e1, e2⟩ := isLocX_inv h1
  exact .mk _ _ _ _ e1 e2 h2 g2
theorem isS_asg2 {i j : Nat} {x : E} {e : XS} (h : isS c (.asg2 i j x) e = true) : IsAsg2 c i j x e := by
  obtain ⟨⟨⟨t, v, p⟩, e0⟩, g0⟩ := any_inv h
  clear h
  subst e0
  dsimp only at g0 ⊢
  obtain ⟨⟨⟨l, k, tp⟩, e⟩, g1⟩ := any_inv g0
  clear g0
  dsimp only at e g1
  subst e
  obtain ⟨⟨⟨u, w⟩, e⟩, g2⟩ := any_inv g1
  clear g1
  dsimp only at e g2
  subst e
  obtain ⟨h1, g3⟩ := and_inv g2
  clear g2
  obtain ⟨h2, g4⟩ := and_inv g3
  clear g3
  obtain ⟨h3, g5⟩ := and_inv g4
  clear g4
  obtain ⟨h4, g6⟩ := and_inv g5
  clear g5
  obtain ⟨n, xp, e1, e2⟩ := isLocX_inv h1
  obtain ⟨n', xp', e3, e4⟩ := isLocX_inv h2
  exact .mk _ _ _ _ _ _ _ _ e1 e2 e3 e4 (fun q => dec_inv h3 (congrArg some q)) h4 g6
theorem isS_setattr {o x : E} {f : Nat} {e : XS} (h : isS c (.setattr o f x) e = true) : IsSetA c o f x e := by
  obtain ⟨⟨⟨t, v, p⟩, e0⟩, g0⟩ := any_inv h
  clear h
  subst e0
  dsimp only at g0 ⊢
  obtain ⟨⟨⟨u, n, ap⟩, e⟩, g1⟩ := any_inv g0
  clear g0
  dsimp only at e g1
  subst e
  obtain ⟨h1, g2⟩ := and_inv g1
  clear g1
  obtain ⟨h2, g3⟩ := and_inv g2
  clear g2
  obtain ⟨h3, g4⟩ := and_inv g3
  clear g3
  obtain rfl := dec_inv h1
  exact .mk _ _ _ _ h2 h3 g4
theorem isS_setitem {o i x : E} {e : XS} (h : isS c (.setitem o i x) e = true) : IsSetI c o i x e := by
  obtain ⟨⟨⟨t, v, p⟩, e0⟩, g0⟩ := any_inv h
  clear h
  subst e0
  dsimp only at g0 ⊢
  obtain ⟨⟨⟨u, n, ap⟩, e⟩, g1⟩ := any_inv g0
  clear g0
  dsimp only at e g1
  subst e
  obtain ⟨h1, g2⟩ := and_inv g1
  clear g1
  obtain ⟨h2, g3⟩ := and_inv g2
  clear g2
  obtain ⟨h3, g4⟩ := and_inv g3
  clear g3
  obtain ⟨h4, g5⟩ := and_inv g4
  clear g4
  exact .mk _ _ _ _ _ h1 h2 h3 h4 g5
theorem isS_expr {x : E} {e : XS} (h : isS c (.expr x) e = true) : IsExp c x e := by
  obtain ⟨⟨q, e0⟩, g0⟩ := any_inv h
  clear h
  subst e0
  obtain ⟨h1, g1⟩ := and_inv g0
  clear g0
  exact .mk _ _ h1 g1
theorem isS_ife {t : E} {x y : List S} {e : XS} (h : isS c (.ife t x y) e = true) : IsIf c t x y e := by
  obtain ⟨⟨q, e0⟩, g0⟩ := any_inv h
  clear h
  subst e0
  obtain ⟨h1, g1⟩ := and_inv g0
  clear g0
  obtain ⟨h2, g2⟩ := and_inv g1
  clear g1
  exact .mk _ _ _ _ h1 h2 g2
theorem isS_whl {t : E} {b : List S} {e : XS} (h : isS c (.whl t b) e = true) : IsWhl c t b e := by
  obtain ⟨⟨q, e0⟩, g0⟩ := any_inv h
  clear h
  subst e0
  obtain ⟨h1, g1⟩ := and_inv g0
  clear g0
  exact .mk _ _ _ h1 g1
theorem isS_forV {i : Nat} {t : E} {b : List S} {e : XS} (h : isS c (.forr i t b) e = true) : IsFor c i t b e := by
  obtain ⟨⟨⟨n, t, b, p⟩, e0⟩, g0⟩ := any_inv h
  clear h
  subst e0
  dsimp only at g0 ⊢
  obtain ⟨h1, g1⟩ := and_inv g0
  clear g0
  obtain ⟨h2, g2⟩ := and_inv g1
  clear g1
  obtain ⟨h3, g3⟩ := and_inv g2
  clear g2
  obtain ⟨n, xp, e1, e2⟩ := isLocX_inv h1
  exact .mk _ _ _ _ _ e1 e2 h2 h3 g3
theorem isS_ret {x : E} {e : XS} (h : isS c (.ret x) e = true) : IsRet c x e := by
  obtain ⟨⟨q, e0⟩, g0⟩ := any_inv h
  clear h
  subst e0
  exact .mk _ _ g0
theorem isS_raise {x y : E} {e : XS} (h : isS c (.raise x y) e = true) : IsRai c x y e := by
  obtain ⟨⟨⟨v, p⟩, e0⟩, g0⟩ := any_inv h
  clear h
  subst e0
  dsimp only at g0 ⊢
  obtain ⟨h1, g1⟩ := and_inv g0
  clear g0
  obtain ⟨⟨⟨f, l, cp⟩, e⟩, g2⟩ := any_inv g1
  clear g1
  dsimp only at e g2
  subst e
  obtain ⟨h2, g3⟩ := and_inv g2
  clear g2
  obtain ⟨⟨⟨u, w⟩, e⟩, g4⟩ := any_inv g3
  clear g3
  dsimp only at e g4
  subst e
  obtain ⟨h3, g5⟩ := and_inv g4
  clear g4
  obtain ⟨h4, g6⟩ := and_inv g5
  clear g5
  obtain ⟨h5, g7⟩ := and_inv g6
  clear g6
  obtain ⟨np, rfl⟩ := isName_inv h2
  exact .mk _ _ _ _ _ h1 h3 h4 h5 g7
theorem isS_try {b : List S} {l : List Nat} {e : XS} (h : isS c (.tryr b l) e = true) : IsTry c b l e := by
  obtain ⟨⟨⟨b, hd, p⟩, e0⟩, g0⟩ := any_inv h
  clear h
  subst e0
  dsimp only at g0 ⊢
  obtain ⟨h1, g1⟩ := and_inv g0
  clear g0
  obtain ⟨h2, g2⟩ := and_inv g1
  clear g1
  obtain ⟨⟨⟨t, r, p5⟩, e⟩, g3⟩ := any_inv g2
  clear g2
  dsimp only at e g3
  subst e
  obtain ⟨h3, g4⟩ := and_inv g3
  clear g3
  obtain ⟨np, rfl⟩ := isName_inv h3
  obtain ⟨⟨⟨u, p4⟩, e⟩, g5⟩ := any_inv g4
  clear g4
  dsimp only at e g5
  subst e
  obtain ⟨⟨⟨u, k3, p3⟩, e⟩, g6⟩ := any_inv g5
  clear g5
  dsimp only at e g6
  subst e
  obtain ⟨⟨z, e⟩, g7⟩ := any_inv g6
  clear g6
  dsimp only at e g7
  subst e
  obtain ⟨k2, p2⟩ := isStrX_inv g7
  exact .mk _ _ _ _ _ _ _ _ _ h1 h2
theorem isSs_nil {l : List XS} (h : isSs c [] l = true) : l = [] := nil_inv h
theorem isSs_cons {x : S} {r : List S} {l : List XS} (h : isSs c (x :: r) l = true) : IsSsC c x r l := by
  cases l with
  | nil => exact Bool.noConfusion h
  | cons y q => obtain ⟨h1, h2⟩ := and_inv h; exact .mk _ _ h1 h2
end
end Mine
end
section
open PySem PySem.W PyProof.Rows PySem.Calls
namespace Mine

/-- where the text's things lie -/
structure Adr where
  fn : Nat → Addr
  cls : Nat → Addr
  err : Addr

structure Ar (A : Around) (fr : List Env) (d : Nat) : Prop where
  frames : A.frames = some fr
  handled : A.handled = none
  room : A.depth + 3 * d + 5 ≤ recursionLimit
  units : A.units + 40 * d + 200 ≤ cLine

noncomputable def biVal : Bi → V
  | .ord => .builtin "ord"
  | .len => .builtin "len"
  | .str => .type "str"
  | .range => .type "range"
  | .toInt => .type "int"
  | .sum => .builtin "sum"

structure Names (a : Adr) (B : Heap) (mg mb : Str → Option V) : Prop where
  g : B.Ns mainGlobals mg
  b : B.Ns builtinsNs mb
  fn : ∀ f l, fnName f = some l → mg (st l) = some (.ref (a.fn f))
  cls : ∀ c l, clsName c = some l → mg (st l) = some (.ref (a.cls c))
  glb : ∀ g l p, globName g = some l → globTab g = some p → ∃ v, mg (st l) = some v ∧ RepV a.cls B [] p v
  bi : ∀ x, mg (st (biName x)) = none ∧ mb (st (biName x)) = some (biVal x)
  err : mg "ReadError" = some (.ref a.err)
  exc : mg "Exception" = none ∧ mb "Exception" = some (.type "Exception")

inductive FnAt (K : Frag) (a : Adr) (f : Nat) (fn : Fn) : Prop
  | mk (name qual : Str) (params : Arguments) (body : List Stmt) (sc : Scope) (doc pm cdv ct oc : V) (an od : Option Addr) (osl : Array (Option V))
    (h1 : K.lookup (a.fn f) = some ⟨oc, od, .func (fnOf name qual params body sc .none .none doc pm an cdv ct), osl⟩) (h2 : codeIn K cdv qual = true)
    (h3 : params = ⟨[], params.args, none, [], [], none, []⟩) (h4 : params.args.map (·.arg) = ((fnLocs f).map st).take fn.np) (h5 : fn.np ≤ (fnLocs f).length) (h6 : (fnLocs f).length = fn.nl) (h7 : ((fnLocs f).map st).Nodup)
    (h8 : ∀ x ∈ (fnLocs f).map st, sc.names.lookup x = some .local) (h9 : ∀ x ∈ sc.names, x.2 ≠ .cell) (h10 : sc.isCoroutine = false) (h11 : sc.isGenerator = false) (h12 : sc.kind = .function)
    (h13 : isSs ⟨sc, (fnLocs f).map st⟩ fn.body body = true)
structure FnOk (K : Frag) (a : Adr) (f : Nat) (fn : Fn) : Prop where
  at_ : FnAt K a f fn

inductive IniAt (K : Frag) (a : Adr) (c n : Nat) (l : List (Nat × Ini)) : Prop
  | mk (fI : Addr) (name qual : Str) (ps : List Arg) (body : List Stmt) (sc : Scope) (doc pm cdv ct oc : V) (an od : Option Addr) (osl : Array (Option V))
    (h1 : findIn K (.ref (a.cls c)) "__init__" = some (some (.ref fI))) (h2 : typeIn K (.ref fI) = some (.type "function"))
    (h3 : K.lookup fI = some ⟨oc, od, .func (fnOf name qual ⟨[], ps, none, [], [], none, []⟩ body sc .none .none doc pm an cdv ct), osl⟩) (h4 : codeIn K cdv qual = true)
    (h5 : ps.length = n) (h6 : (ps.map (·.arg)).Nodup) (h7 : ∀ x ∈ ps.map (·.arg), sc.names.lookup x = some .local) (h8 : ∀ x ∈ sc.names, x.2 ≠ .cell) (h9 : sc.isCoroutine = false) (h10 : sc.isGenerator = false) (h11 : sc.kind = .function)
    (h12 : isIni ⟨sc, ps.map (·.arg)⟩ l body = true)
structure IniOk (K : Frag) (a : Adr) (c n : Nat) (l : List (Nat × Ini)) : Prop where
  makes : makesIn K (a.cls c) = true
  at_ : IniAt K a c n l

noncomputable def excOnly : List V → Bool
  | [.type a, .type b, .type c] => a == "Exception" && b == "BaseException" && c == "object"
  | .ref _ :: r => excOnly r
  | _ => false
inductive ErrCls (K : Frag) (a : Adr) : Prop
  | mk (nm q : Str) (N : Addr) (bs bm : List V) (hdct : Bool) (sn : List Str) (sub : List V) (ab : Bool) (col : Option Bool) (dd : Option Addr) (k0 k1 k2 k3 k5 : Option V)
    (h1 : K.lookup a.err = some (excClassObj nm q a.err N bs bm hdct sn sub ab col dd k0 k1 k2 k3 k5 "Exception.__new__")) (h2 : (Value.ref a.err :: bm).contains (.type "Exception") = true) (h3 : (Value.ref a.err :: bm).contains (.type "AttributeError") = false)
    (h4 : (Value.ref a.err :: bm).contains (.type "NameError") = false) (h5 : bm.contains (.type "BaseException") = true)
inductive ErrIni (K : Frag) (a : Adr) : Prop
  | mk (fI : Addr) (name qual : Str) (p1 p2 p3 : Arg) (df : List XE) (body : List Stmt) (sc : Scope) (T : Addr) (oT : Obj) (x : V) (n : Nat) (doc pm cdv ct oc : V) (an od : Option Addr) (osl : Array (Option V))
    (h1 : findIn K (.ref a.err) "__init__" = some (some (.ref fI))) (h2 : typeIn K (.ref fI) = some (.type "function"))
    (h3 : K.lookup fI = some ⟨oc, od, .func (fnOf name qual ⟨[], [p1, p2, p3], none, [], [], none, df⟩ body sc (.ref T) .none doc pm an cdv ct), osl⟩) (h4 : codeIn K cdv qual = true)
    (h5 : K.lookup T = some oT) (h6 : oT.data = .seq #[x] n) (h7 : [p1.arg, p2.arg, p3.arg].Nodup) (h8 : ∀ x ∈ [p1.arg, p2.arg, p3.arg], sc.names.lookup x = some .local) (h9 : ∀ x ∈ sc.names, x.2 ≠ .cell) (h10 : sc.isCoroutine = false) (h11 : sc.isGenerator = false) (h12 : sc.kind = .function)
    (h13 : isErrIni ⟨sc, [p1.arg, p2.arg, p3.arg]⟩ body = true)
structure ErrOk (K : Frag) (a : Adr) : Prop where
  cls : ErrCls K a
  set : findIn K (.ref a.err) "__setattr__" = some (some (.builtin "object.__setattr__"))
  only : (clsIn K a.err).any (fun cd => excOnly cd.mro) = true
  dict : hasDictIn K a.err = true
  t1 : takerIn K a.err "what" = some none
  t2 : takerIn K a.err "at" = some none
  keep : keepIn K (.ref a.err) = true
  ini : ErrIni K a

structure Fa (K : Frag) (a : Adr) : Prop where
  err : ErrOk K a
  ini : ∀ c n l, initTab c = some (n, l) → IniOk K a c n l
  names : ∀ B, K.In B → ∃ mg mb, Names a B mg mb
  lim : ∀ B, K.In B → B.NoLimit
  fn : ∀ f fn, fnTab f = some fn → FnOk K a f fn
  keepF : ∀ f l, fnName f = some l → keepIn K (.ref (a.fn f)) = true
  keepC : ∀ c, c < 9 → keepIn K (.ref (a.cls c)) = true
  hasDict : ∀ c, c < 9 → hasDictIn K (a.cls c) = true
  ga : ∀ c, c < 9 → plainGet K (a.cls c) "" = true
  sa : ∀ c, c < 9 → findIn K (.ref (a.cls c)) "__setattr__" = some (some (.builtin "object.__setattr__")) ∧ plainOver K (a.cls c) = true
  attr : ∀ c f, c < 9 → f ∈ fieldsOf c → (∃ x, findIn K (.ref (a.cls c)) (nm f) = some x ∧ noGet K x = true) ∧ takerIn K (a.cls c) (nm f) = some none
  meth : ∀ c m f, methTab c m = some f → c < 9 ∧ findIn K (.ref (a.cls c)) (nm m) = some (some (.ref (a.fn f))) ∧ isFn K (.ref (a.fn f)) = true ∧ m ∉ fieldsOf c ∧ keepIn K (.ref (a.fn f)) = true ∧ ∀ g ∈ fieldsOf c, nm g ≠ nm m

section
variable (K : Frag) (a : Adr)
inductive XNew (Bx : Heap) (fr : List Env) (e : Addr) (h : Heap) : Prop
  | mk (h1 : Bx.StaysIn h) (h2 : Bx.get? e = none) (h3 : h.FunFrames Bx fr) (oe : Obj) (vs : Array V) (a0 : V) (h4 : h.get? e = some oe) (h5 : oe.cls = .ref a.err) (h6 : oe.data = .fields vs) (h7 : vs[0]? = some a0) (h8 : vs[1]? = some .none)
noncomputable def XSt (Bx : Heap) (fr : List Env) (L e : Addr) (h : Heap) : Prop :=
  XNew a Bx fr e h ∨ (∃ a0, Heap.FlyingW Bx fr e (.ref a.err) a0 h) ∨ ∃ a0, Heap.HeldW Bx fr e (.ref a.err) a0 L h

/-- the state behind a raise: Bx keeps whatever the frames are not; X says how the exception stands -/
inductive Exc (X : Heap → Addr → Heap → Prop) (fr : List Env) (xs ks : List Addr) (B : Heap) (ρ : Rho) (s : Shared) (σ' : Store) (e : V) (s' : Shared) : Prop
  | mk (B' : Heap) (ρ' : Rho) (Bx : Heap) (ea : Addr) (h1 : e = .ref ea) (h2 : Ext xs B ρ s B' ρ' s') (h3 : St0 a.cls K B' ρ' σ' Bx) (h4 : ∀ b, isOwn ρ' b → ¬ isFr fr b) (h5 : X Bx ea s'.heap)
    (h6 : ∀ b o, s.heap.get? b = some o → ¬ isOwn ρ b → b ∉ xs → Bx.get? b = some o) (h7 : ∀ b m, b ∈ ks → s.heap.Ns b m → s'.heap.Ns b m)
/-- within a frame -/
noncomputable abbrev ExX (fr : List Env) (L : Addr) (xs : List Addr) (B : Heap) (ρ : Rho) (s : Shared) (σ' : Store) (e : V) (s' : Shared) : Prop :=
  Exc K a (fun Bx ea h => XSt a Bx fr L ea h) fr xs (frs fr.tail) B ρ s σ' e s'
/-- within a frame, with the frame noted -/
noncomputable abbrev ExH (fr : List Env) (L : Addr) (xs : List Addr) (B : Heap) (ρ : Rho) (s : Shared) (σ' : Store) (e : V) (s' : Shared) : Prop :=
  Exc K a (fun Bx ea h => ∃ a0, Heap.HeldW Bx fr ea (.ref a.err) a0 L h) fr xs (frs fr.tail) B ρ s σ' e s'
/-- out of a call -/
noncomputable abbrev ExC (fr : List Env) (B : Heap) (ρ : Rho) (s : Shared) (σ' : Store) (e : V) (s' : Shared) : Prop :=
  Exc K a (fun Bx ea h => ∃ a0, Heap.FlyingW Bx fr ea (.ref a.err) a0 h) fr (frs fr) (frs fr) B ρ s σ' e s'

inductive OkE (fr : List Env) (B : Heap) (ρ : Rho) (s : Shared) (p : PV) (σ' : Store) (v : V) (s' : Shared) : Prop
  | mk (B' : Heap) (ρ' : Rho) (h1 : Step (frs fr) (frs fr) B ρ s B' ρ' s') (h2 : St a.cls K fr B' ρ' σ' s'.heap) (h3 : RepV a.cls B' ρ' p v)
inductive OkB (fr : List Env) (B : Heap) (ρ : Rho) (s : Shared) (σ' : Store) (s' : Shared) : Prop
  | mk (B' : Heap) (ρ' : Rho) (h1 : Step (frs fr) (frs fr) B ρ s B' ρ' s') (h2 : St a.cls K fr B' ρ' σ' s'.heap)
noncomputable def Reps (B : Heap) (ρ : Rho) (l : List PV) (vs : List V) : Prop := l.length = vs.length ∧ ∀ (i : Nat) (p : PV) (v : V), l[i]? = some p → vs[i]? = some v → RepV a.cls B ρ p v
inductive OkVs (fr : List Env) (B : Heap) (ρ : Rho) (s : Shared) (l : List PV) (σ' : Store) (vs : List V) (s' : Shared) : Prop
  | mk (B' : Heap) (ρ' : Rho) (h1 : Step (frs fr) (frs fr) B ρ s B' ρ' s') (h2 : St a.cls K fr B' ρ' σ' s'.heap) (h3 : Reps a B' ρ' l vs)
noncomputable def FlRep (B : Heap) (ρ : Rho) : Flow → PySem.Flow → Prop
  | .next, .next => True
  | .ret p, .ret v => RepV a.cls B ρ p v
  | _, _ => False
inductive OkS (fr : List Env) (names : List Str) (L : Addr) (xs : List Addr) (B : Heap) (ρ : Rho) (s : Shared) (f : Flow) (l : Loc) (σ' : Store) (g : PySem.Flow) (s' : Shared) : Prop
  | mk (B' : Heap) (ρ' : Rho) (h1 : Step xs (frs fr.tail) B ρ s B' ρ' s') (h2 : St a.cls K fr B' ρ' σ' s'.heap) (h3 : f = .next → Lo a.cls B' ρ' names l s'.heap L) (h4 : FlRep a B' ρ' f g)
end

/-- one activation -/
structure Act where
  qual : Str
  sc : Scope
  L : Addr
  f : Addr
  cd : V
  outer : List Env
  names : List Str
noncomputable def Act.env (c : Act) : Env := envOf c.qual c.sc c.L c.f c.cd
noncomputable def Act.fr (c : Act) : List Env := c.env :: c.outer
noncomputable def Act.S (c : Act) : Sc := ⟨c.sc, c.names⟩
structure ActOk (K : Frag) (a : Adr) (c : Act) : Prop where
  kind : c.sc.kind = .function
  nodup : c.names.Nodup
  fa : Fa K a
  apart : c.L ∉ Mine.frs c.outer

theorem Act.frs_eq (c : Act) : Mine.frs c.fr = c.L :: Mine.frs c.outer := by
  show List.filterMap _ (envOf c.qual c.sc c.L c.f c.cd :: c.outer) = _
  rw [List.filterMap_cons]; rfl
theorem Act.tail (c : Act) : c.fr.tail = c.outer := rfl

noncomputable def ItOk (h : Heap) (ρ : Rho) (it : Addr) : Src → Prop
  | .lst i k => ∃ b d, ρ[i]? = some (b, d) ∧ h.IsListIter it b k
  | .vals l => (∃ (x left : Int), IsRangeIter h it x left 1 ∧ l = (List.range left.toNat).map fun (k : Nat) => PV.int (x + (k : Int))) ∨
      ∃ (x : Str) (t : Tok) (i : Nat), h.IsStrIter it (strIterType x) x t i ∧ l = (x.cps.toList.drop i).map fun c => PV.str [c]

section
variable (P : Program) (w : World) (K : Frag) (a : Adr)
noncomputable def St1 (c : Act) (B : Heap) (ρ : Rho) (σ : Store) (l : Loc) (s : Shared) : Prop := St a.cls K c.fr B ρ σ s.heap ∧ Lo a.cls B ρ c.names l s.heap c.L

/-- what the evaluator's answer promises of the model's tree -/
noncomputable def Good (d : Nat) : Cfg → Out → Prop
  | .e x l σ, .v p σ' => ∀ (c : Act) (e : XE) (A : Around) (B : Heap) (ρ : Rho) (s : Shared), ActOk K a c → isE c.S x e = true → Ar A c.fr d → St1 K a c B ρ σ l s →
      (∀ Q E, (∀ v s', OkE K a c.fr B ρ s p σ' v s' → Q v s') → wpAny (model P w) A (eval e c.env) Q E s) ∧
      ∀ b, p = .bool b → ∀ Q E, (∀ s', OkB K a c.fr B ρ s σ' s' → Q b s') → wpAny (model P w) A (isTrue e c.env (eval e c.env)) Q E s
  | .e x l σ, .exc σ' => ∀ (c : Act) (e : XE) (A : Around) (B : Heap) (ρ : Rho) (s : Shared), ActOk K a c → isE c.S x e = true → Ar A c.fr d → St1 K a c B ρ σ l s →
      ∀ Q E, (∀ v s', ExX K a c.fr c.L (frs c.fr) B ρ s σ' v s' → E v s') → wpAny (model P w) A (eval e c.env) Q E s
  | .es xs l σ, .vs ps σ' => ps.length = xs.length ∧ ∀ (c : Act) (es : List XE) (pos : Pos) (A : Around) (B : Heap) (ρ : Rho) (s : Shared), ActOk K a c → isEs c.S xs es = true → Ar A c.fr d → St1 K a c B ρ σ l s →
      ∀ Q E, (∀ vs s', OkVs K a c.fr B ρ s ps σ' vs s' → Q vs s') → wpAny (model P w) A (spliced (backTo pos (starEach es c.env))) Q E s
  | .es xs l σ, .exc σ' => ∀ (c : Act) (es : List XE) (pos : Pos) (A : Around) (B : Heap) (ρ : Rho) (s : Shared), ActOk K a c → isEs c.S xs es = true → Ar A c.fr d → St1 K a c B ρ σ l s →
      ∀ Q E, (∀ v s', ExX K a c.fr c.L (frs c.fr) B ρ s σ' v s' → E v s') → wpAny (model P w) A (spliced (backTo pos (starEach es c.env))) Q E s
  | .bools k xs l σ, .v p σ' => ∃ b, p = .bool b ∧ ∀ (c : Act) (es : List XE) (pos : Pos) (A : Around) (B : Heap) (ρ : Rho) (s : Shared), ActOk K a c → isEs c.S xs es = true → Ar A c.fr d → St1 K a c B ρ σ l s →
      (∀ Q E, (∀ s', OkB K a c.fr B ρ s σ' s' → Q (.bool b) s') → wpAny (model P w) A (boolOp pos (if k then .And else .Or) (evalEach es c.env)) Q E s) ∧
      ∀ Q E, (∀ s', OkB K a c.fr B ρ s σ' s' → Q b s') → wpAny (model P w) A (allTrue (if k then .And else .Or) es c.env) Q E s
  | .s x l σ, .fl f l' σ' => ∀ (c : Act) (e : XS) (A : Around) (B : Heap) (ρ : Rho) (s : Shared), ActOk K a c → isS c.S x e = true → Ar A c.fr d → St1 K a c B ρ σ l s →
      ∀ Q E, (∀ g s', OkS K a c.fr c.names c.L (frs c.fr) B ρ s f l' σ' g s' → Q g s') → wpAny (model P w) A (exec e c.env) Q E s
  | .s x l σ, .exc σ' => ∀ (c : Act) (e : XS) (A : Around) (B : Heap) (ρ : Rho) (s : Shared), ActOk K a c → isS c.S x e = true → Ar A c.fr d → St1 K a c B ρ σ l s →
      ∀ Q E, (∀ v s', ExX K a c.fr c.L (frs c.fr) B ρ s σ' v s' → E v s') → wpAny (model P w) A (exec e c.env) Q E s
  | .ss x l σ, .fl f l' σ' => ∀ (c : Act) (e : List XS) (A : Around) (B : Heap) (ρ : Rho) (s : Shared), ActOk K a c → isSs c.S x e = true → Ar A c.fr d → St1 K a c B ρ σ l s →
      ∀ Q E, (∀ g s', OkS K a c.fr c.names c.L (frs c.fr) B ρ s f l' σ' g s' → Q g s') → wpAny (model P w) A (execs e c.env) Q E s
  | .ss x l σ, .exc σ' => ∀ (c : Act) (e : List XS) (A : Around) (B : Heap) (ρ : Rho) (s : Shared), ActOk K a c → isSs c.S x e = true → Ar A c.fr d → St1 K a c B ρ σ l s →
      ∀ Q E, (∀ v s', ExX K a c.fr c.L (frs c.fr) B ρ s σ' v s' → E v s') → wpAny (model P w) A (execs e c.env) Q E s
  | .whl t b l σ, .fl f l' σ' => ∀ (c : Act) (t' : XE) (b' : List XS) (A : Around) (B : Heap) (ρ : Rho) (s : Shared), ActOk K a c → isE c.S t t' = true → isSs c.S b b' = true → Ar A c.fr d → St1 K a c B ρ σ l s →
      ∀ R, (∀ g s', OkS K a c.fr c.names c.L (frs c.fr) B ρ s f l' σ' g s' → R (.ok g) s') → codeAny (model P w) A (.whileLoop t' b' [] c.env) R s
  | .whl t b l σ, .exc σ' => ∀ (c : Act) (t' : XE) (b' : List XS) (A : Around) (B : Heap) (ρ : Rho) (s : Shared), ActOk K a c → isE c.S t t' = true → isSs c.S b b' = true → Ar A c.fr d → St1 K a c B ρ σ l s →
      ∀ R, (∀ v s', ExH K a c.fr c.L (frs c.fr) B ρ s σ' v s' → R (.error v) s') → codeAny (model P w) A (.whileLoop t' b' [] c.env) R s
  | .fr i src b l σ, .fl f l' σ' => ∀ (c : Act) (x : Str) (xp : Pos) (it : Addr) (b' : List XS) (A : Around) (B : Heap) (ρ : Rho) (s : Shared), ActOk K a c → c.names[i]? = some x → c.S.lcl x = true → isSs c.S b b' = true → Ar A c.fr d → St1 K a c B ρ σ l s →
      ItOk s.heap ρ it src → B.get? it = none → ¬ isOwn ρ it → it ∉ frs c.fr →
      ∀ R, (∀ g s', OkS K a c.fr c.names c.L (it :: frs c.fr) B ρ s f l' σ' g s' → R (.ok g) s') → codeAny (model P w) A (.forLoop (.Name x xp) (.ref it) b' [] c.env) R s
  | .call f as σ, .v p σ' => ∀ (fr : List Env) (A : Around) (B : Heap) (ρ : Rho) (s : Shared) (vs : List V), Fa K a → Ar A fr d → St a.cls K fr B ρ σ s.heap → Reps a B ρ as vs →
      ∀ R, (∀ v s', OkE K a fr B ρ s p σ' v s' → R (.ok (.ret v)) s') → codeAny (model P w) A (.call (.ref (a.fn f)) ⟨vs, []⟩) R s
  | .call f as σ, .exc σ' => ∀ (fr : List Env) (A : Around) (B : Heap) (ρ : Rho) (s : Shared) (vs : List V), Fa K a → Ar A fr d → St a.cls K fr B ρ σ s.heap → Reps a B ρ as vs →
      ∀ R, (∀ v s', ExC K a fr B ρ s σ' v s' → R (.error v) s') → codeAny (model P w) A (.call (.ref (a.fn f)) ⟨vs, []⟩) R s
  | .bools _ _ _ _, .exc _ => False
  | .fr _ _ _ _ _, .exc _ => False
  | _, _ => True
end
end Mine
end
section
open PySem PySem.W PyProof.Rows PySem.Calls
namespace Mine
section
variable {P : Program} {w : World} {K : Frag} {a : Adr} {d : Nat}

theorem Act.mem (c : Act) : c.L ∈ Mine.frs c.fr := by rw [Act.frs_eq]; exact .head _
theorem St1.step {c : Act} {B B' : Heap} {ρ ρ' : Rho} {σ σ' : Store} {l : Loc} {s s' : Shared} (x : St1 K a c B ρ σ l s) (t : Step (frs c.fr) (frs c.fr) B ρ s B' ρ' s') (y : St a.cls K c.fr B' ρ' σ' s'.heap) : St1 K a c B' ρ' σ' l s' :=
  ⟨y, x.2.step t c.mem⟩
theorem okE_fin {fr : List Env} {B B₂ : Heap} {ρ ρ₂ : Rho} {s s₂ s₃ : Shared} {p : PV} {σ : Store} {v : V} (t : Step (frs fr) (frs fr) B ρ s B₂ ρ₂ s₂) (y : St a.cls K fr B₂ ρ₂ σ s₂.heap) (r : RepV a.cls B₂ ρ₂ p v)
    (h : s₃.heap = s₂.heap := by rfl) (ho : s₃.os = s₂.os := by rfl) (hg : s₃.gens = s₂.gens := by rfl) : OkE K a fr B ρ s p σ v s₃ :=
  ⟨B₂, ρ₂, t.trans (.of_keeps (fun _ _ e => by rw [h]; exact e) ho hg), by rw [h]; exact y, r⟩
theorem okE_now {fr : List Env} {B : Heap} {ρ : Rho} {s s₃ : Shared} {p : PV} {σ : Store} {v : V} (y : St a.cls K fr B ρ σ s.heap) (r : RepV a.cls B ρ p v)
    (h : s₃.heap = s.heap := by rfl) (ho : s₃.os = s.os := by rfl) (hg : s₃.gens = s.gens := by rfl) : OkE K a fr B ρ s p σ v s₃ := okE_fin (.refl ..) y r h ho hg
theorem OkE.pre {fr : List Env} {B B₁ : Heap} {ρ ρ₁ : Rho} {s s₁ s₂ : Shared} {p : PV} {σ : Store} {v : V} (t : Step (frs fr) (frs fr) B ρ s B₁ ρ₁ s₁) (x : OkE K a fr B₁ ρ₁ s₁ p σ v s₂) : OkE K a fr B ρ s p σ v s₂ :=
  let ⟨B₂, ρ₂, q1, q2, q3⟩ := x; ⟨B₂, ρ₂, t.trans q1, q2, q3⟩
theorem OkB.pre {fr : List Env} {B B₁ : Heap} {ρ ρ₁ : Rho} {s s₁ s₂ : Shared} {σ : Store} (t : Step (frs fr) (frs fr) B ρ s B₁ ρ₁ s₁) (x : OkB K a fr B₁ ρ₁ s₁ σ s₂) : OkB K a fr B ρ s σ s₂ :=
  let ⟨B₂, ρ₂, q1, q2⟩ := x; ⟨B₂, ρ₂, t.trans q1, q2⟩
theorem OkB.e {fr : List Env} {B : Heap} {ρ : Rho} {s s₂ : Shared} {b : Bool} {σ : Store} (x : OkB K a fr B ρ s σ s₂) : OkE K a fr B ρ s (.bool b) σ (.bool b) s₂ := let ⟨B₂, ρ₂, q1, q2⟩ := x; ⟨B₂, ρ₂, q1, q2, .bool b⟩
theorem Exc.pre {X : Heap → Addr → Heap → Prop} {fr : List Env} {xs ks ks' : List Addr} {B B₁ : Heap} {ρ ρ₁ : Rho} {s s₁ s' : Shared} {σ' : Store} {e : V} (t : Step xs ks' B ρ s B₁ ρ₁ s₁) (hk : ∀ b, b ∈ ks → b ∈ ks') (x : Exc K a X fr xs ks B₁ ρ₁ s₁ σ' e s') : Exc K a X fr xs ks B ρ s σ' e s' := by
  obtain ⟨B', ρ', Bx, ea, e1, e2, e3, e4, e5, e6, e7⟩ := x
  exact ⟨B', ρ', Bx, ea, e1, t.ext e2, e3, e4, e5, fun b o q n f => e6 b o (t.old b o q n f) (t.old_new q n f) f, fun b m f q => e7 b m f (t.ns b m (hk b f) q)⟩
theorem ExX.pre' {c : Act} {B B₁ : Heap} {ρ ρ₁ : Rho} {s s₁ s' : Shared} {σ' : Store} {e : V} (t : Step (frs c.fr) (frs c.fr) B ρ s B₁ ρ₁ s₁) (x : ExX K a c.fr c.L (frs c.fr) B₁ ρ₁ s₁ σ' e s') : ExX K a c.fr c.L (frs c.fr) B ρ s σ' e s' :=
  Exc.pre t (fun b hb => by rw [Act.tail] at hb; rw [Act.frs_eq]; exact .tail _ hb) x
theorem ExX.pre'' {c : Act} {B B₁ : Heap} {ρ ρ₁ : Rho} {s s₁ s' : Shared} {σ' : Store} {e : V} (t : Step (frs c.fr) (frs c.fr.tail) B ρ s B₁ ρ₁ s₁) (x : ExX K a c.fr c.L (frs c.fr) B₁ ρ₁ s₁ σ' e s') : ExX K a c.fr c.L (frs c.fr) B ρ s σ' e s' :=
  Exc.pre t (fun b hb => hb) x

-- values
theorem RepV.int' {B : Heap} {ρ : Rho} {i : Int} {v : V} (h : RepV a.cls B ρ (.int i) v) : ∃ t, v = .int i t := by cases h; exact ⟨_, rfl⟩
theorem RepV.str' {B : Heap} {ρ : Rho} {l : List Nat} {v : V} (h : RepV a.cls B ρ (.str l) v) : ∃ t, v = .str (st l) t := by cases h; exact ⟨_, rfl⟩
theorem RepV.bool' {B : Heap} {ρ : Rho} {b : Bool} {v : V} (h : RepV a.cls B ρ (.bool b) v) : v = .bool b := by cases h; rfl
theorem st_append (l r : List Nat) : st (l ++ r) = st l ++ st r := by
  show Str.mk _ = Str.mk _
  simp [st]
theorem st_inj {l r : List Nat} (h : st l = st r) : l = r := by
  have := congrArg (fun x => x.cps.toList) h
  simpa [st] using this
theorem st_beq (l r : List Nat) : (st l == st r) = (l == r) := by
  by_cases h : l = r
  · subst h; simp
  · have : st l ≠ st r := fun q => h (st_inj q)
    rw [beq_eq_false_iff_ne.mpr this, beq_eq_false_iff_ne.mpr h]
theorem st_length (l : List Nat) : (st l).length = l.length := by show (st l).cps.size = _; simp [st]

-- leaves
theorem g_bool {σ : Store} {l : Loc} {b : Bool} : Good P w K a d (.e (.bool b) l σ) (.v (.bool b) σ) := by
  intro c e A B ρ s ao hi ar st
  obtain ⟨k, pos⟩ := isE_bool hi
  refine ⟨fun Q E h => wpAny_Constant_bool (h _ _ (okE_now st.1 (.bool _))), fun b' hb Q E h => ?_⟩
  cases hb
  exact isTrue_plain (wpAny_Constant_bool (wpAny_truthy_bool (h _ ⟨B, ρ, .refl .., st.1⟩)))
theorem g_int {σ : Store} {l : Loc} {i : Int} : Good P w K a d (.e (.int i) l σ) (.v (.int i) σ) := by
  intro c e A B ρ s ao hi ar st
  obtain ⟨k, pos⟩ := isE_int hi
  exact ⟨fun Q E h => wpAny_Constant_int (h _ _ (okE_now st.1 (.int ..))), fun b h => by cases h⟩
theorem g_str {σ : Store} {l : Loc} {x : List Nat} : Good P w K a d (.e (.str x) l σ) (.v (.str x) σ) := by
  intro c e A B ρ s ao hi ar st
  obtain ⟨k, pos⟩ := isStrX_inv hi
  exact ⟨fun Q E h => Constant_str (h _ _ (okE_now st.1 (.str ..))), fun b h => by cases h⟩

theorem lcl_is {c : Act} {x : Str} (h : c.S.lcl x = true) : c.env.kindOf x = some .local ∧ (x == ("__debug__" : Str)) = false := by
  unfold Sc.lcl at h
  simp only [Bool.and_eq_true, beq_iff_eq, bne_iff_ne, ne_eq] at h
  exact ⟨h.1, beq_eq_false_iff_ne.mpr h.2⟩
theorem glb_is {c : Act} {x : Str} (h : c.S.glb x = true) : c.env.kindOf x = some .globalImplicit ∧ (x == ("__debug__" : Str)) = false := by
  unfold Sc.glb at h
  simp only [Bool.and_eq_true, beq_iff_eq, bne_iff_ne, ne_eq] at h
  exact ⟨h.1, beq_eq_false_iff_ne.mpr h.2⟩

theorem g_loc {σ : Store} {l : Loc} {i : Nat} {p : PV} (hp : locAt l i = some p) : Good P w K a d (.e (.loc i) l σ) (.v p σ) := by
  intro c e A B ρ s ao hi ar st
  obtain ⟨x, pos, h1, h2⟩ := isLocX_inv hi
  obtain ⟨h3, h4⟩ := lcl_is h2
  obtain ⟨m, n1, n2⟩ := st.2
  obtain ⟨y, v, q1, q2, q3⟩ := n2 i p hp
  have : x = y := by
    rw [show c.S.names = c.names from rfl, q1] at h1
    exact (Option.some.inj h1).symm
  subst this
  have ev : ∀ Q E, Q v s → wpAny (model P w) A (eval (.Name x pos) c.env) Q E s := fun Q E h => wpAny_Name (wpAny_loadName_local ao.kind h3 n1 q2 h) h4
  refine ⟨fun Q E h => ev Q E (h _ _ (okE_now st.1 q3)), fun b hb Q E h => ?_⟩
  subst hb
  obtain rfl := q3.bool'
  exact isTrue_plain (ev _ _ (wpAny_truthy_bool (h _ ⟨B, ρ, .refl .., st.1⟩)))

theorem ld_glob {c : Act} {x : Str} {pos : Pos} {A : Around} {B : Heap} {s : Shared} {mg mb : Str → Option V} {v : V} {Q : V → Shared → Prop} {E : V → Shared → Prop} (ao : ActOk K a c) (hx : c.S.glb x = true) (hs : B.StaysIn s.heap) (N : Names a B mg mb) (hv : mg x = some v) (h : Q v s) :
    wpAny (model P w) A (eval (.Name x pos) c.env) Q E s := by
  obtain ⟨h3, h4⟩ := glb_is hx
  exact Name_function_global ao.kind h3 (loadGlobal_global (env := c.env) (N.g.keeps hs) hv h) h4
theorem ld_bi {c : Act} {x : Bi} {pos : Pos} {A : Around} {B : Heap} {s : Shared} {mg mb : Str → Option V} {Q : V → Shared → Prop} {E : V → Shared → Prop} (ao : ActOk K a c) (hx : c.S.glb (Mine.st (biName x)) = true) (hs : B.StaysIn s.heap) (N : Names a B mg mb) (h : Q (biVal x) s) :
    wpAny (model P w) A (eval (.Name (Mine.st (biName x)) pos) c.env) Q E s := by
  obtain ⟨h3, h4⟩ := glb_is hx
  exact Name_function_global ao.kind h3 (loadGlobal_builtin (env := c.env) (N.g.keeps hs) (N.bi x).1 (N.b.keeps hs) (N.bi x).2 h) h4
theorem g_glob {σ : Store} {l : Loc} {g : Nat} {p : PV} (hp : globTab g = some p) : Good P w K a d (.e (.glob g) l σ) (.v p σ) := by
  intro c e A B ρ s ao hi ar st
  obtain ⟨x, pos, h1, h2⟩ := isE_glob hi
  obtain ⟨n, e1, e2⟩ := Option.map_eq_some_iff.mp h1
  subst e2
  obtain ⟨mg, mb, N⟩ := ao.fa.names B st.1.kin
  obtain ⟨v, q1, q2⟩ := N.glb g n p e1 hp
  have q3 : RepV a.cls B ρ p v := q2.mono (fun _ _ e => e) List.nil_prefix
  have ev : ∀ Q E, Q v s → wpAny (model P w) A (eval (.Name (Mine.st n) pos) c.env) Q E s := fun Q E h => ld_glob ao h2 st.1.stays N q1 h
  refine ⟨fun Q E h => ev Q E (h _ _ (okE_now st.1 q3)), fun b hb Q E h => ?_⟩
  subst hb
  obtain rfl := q3.bool'
  exact isTrue_plain (ev _ _ (wpAny_truthy_bool (h _ ⟨B, ρ, .refl .., st.1⟩)))
end
end Mine
end
section
open PySem PySem.W PyProof.Rows PySem.Calls
namespace Mine
section
variable {P : Program} {w : World} {K : Frag} {a : Adr} {d : Nat}

/-- the heap stands, and all that counts beside it -/
structure Same (s s' : Shared) : Prop where
  heap : s'.heap = s.heap
  os : s'.os = s.os
  gens : s'.gens = s.gens
theorem Same.t {s : Shared} {n : Nat} : Same s { s with toks := n } := ⟨rfl, rfl, rfl⟩
theorem Same.r {s : Shared} : Same s s := ⟨rfl, rfl, rfl⟩
theorem okE_same {fr : List Env} {B B₂ : Heap} {ρ ρ₂ : Rho} {s s₂ s₃ : Shared} {p : PV} {σ : Store} {v : V} (t : Step (frs fr) (frs fr) B ρ s B₂ ρ₂ s₂) (y : St a.cls K fr B₂ ρ₂ σ s₂.heap) (r : RepV a.cls B₂ ρ₂ p v) (q : Same s₂ s₃) : OkE K a fr B ρ s p σ v s₃ :=
  okE_fin t y r q.heap q.os q.gens

theorem asInt_inv : ∀ {p : PV} {i : Int}, asInt p = some i → p = .int i
  | .int _, _, h => congrArg PV.int (Option.some.inj h)
theorem asStr_inv : ∀ {p : PV} {l : List Nat}, asStr p = some l → p = .str l
  | .str _, _, h => congrArg PV.str (Option.some.inj h)
theorem asTup_inv : ∀ {p : PV} {l : List PV}, asTup p = some l → p = .tup l
  | .tup _, _, h => congrArg PV.tup (Option.some.inj h)
theorem asOne_inv : ∀ {l : List Nat} {c : Nat}, asOne l = some c → l = [c]
  | [_], _, h => congrArg (fun c => [c]) (Option.some.inj h)
inductive Int2 {α : Type} (f : Int → Int → Option α) (r : α) : PV → PV → Prop
  | mk (a b : Int) (h : f a b = some r) : Int2 f r (.int a) (.int b)
theorem int2_inv {α : Type} {f : Int → Int → Option α} {r : α} {p q : PV} (h : int2 f p q = some r) : Int2 f r p q := by
  obtain ⟨i, h1, h⟩ := Option.bind_eq_some_iff.mp h
  obtain ⟨j, h2, h⟩ := Option.bind_eq_some_iff.mp h
  rw [asInt_inv h1, asInt_inv h2]
  exact .mk i j h
theorem if_inv {α : Type} {c : Prop} [Decidable c] {x r : α} (h : (if c then some x else none) = some r) : c ∧ r = x := by
  by_cases q : c
  · rw [if_pos q] at h; exact ⟨q, (Option.some.inj h).symm⟩
  · rw [if_neg q] at h; cases h
inductive AddOk (r : PV) : PV → PV → Prop
  | int (a b : Int) (h : r = .int (a + b)) : AddOk r (.int a) (.int b)
  | str (a b : List Nat) (h1 : a.length + b.length ≤ 65536) (h2 : r = .str (a ++ b)) : AddOk r (.str a) (.str b)
theorem addV_inv {r : PV} {p q : PV} (h : addV p q = some r) : AddOk r p q := by
  cases p with
  | int i =>
    obtain ⟨j, h2, h⟩ := Option.map_eq_some_iff.mp h
    rw [asInt_inv h2]; exact .int i j h.symm
  | str x =>
    obtain ⟨y, h2, h⟩ := Option.bind_eq_some_iff.mp h
    rw [asStr_inv h2]; exact .str x y (if_inv h).1 (if_inv h).2
  | _ => cases h
theorem bop_ok {A : Around} {B : Heap} {ρ : Rho} {s : Shared} {o : Bop} {op : Operator} {p q r : PV} {x y : V} {Q : V → Shared → Prop} {E : V → Shared → Prop} (hp : RepV a.cls B ρ p x) (hq : RepV a.cls B ρ q y) (ho : bopIs o op = true) (hr : bopV o p q = some r)
    (h : ∀ v s', Same s s' → RepV a.cls B ρ r v → Q v s') : wpAny (model P w) A (binaryOp op x y) Q E s := by
  obtain rfl := dec_inv ho
  cases o with
  | add =>
    cases addV_inv hr with
    | int i j e =>
      obtain ⟨t, rfl⟩ := hp.int'; obtain ⟨u, rfl⟩ := hq.int'
      subst e
      exact add_int (h _ _ .t (.int ..))
    | str l l' hl e =>
      obtain ⟨t, rfl⟩ := hp.str'; obtain ⟨u, rfl⟩ := hq.str'
      subst e
      refine add_str (fun t' tk => h _ _ .t ?_) (by rw [st_length, st_length, sizeLine_eq]; lia)
      rw [← st_append]; exact .str ..
  | sub =>
    obtain ⟨i, j, e⟩ := int2_inv hr
    obtain ⟨t, rfl⟩ := hp.int'; obtain ⟨u, rfl⟩ := hq.int'
    obtain rfl := Option.some.inj e
    exact sub_int (h _ _ .t (.int ..))
  | mul =>
    obtain ⟨i, j, e⟩ := int2_inv hr
    obtain ⟨t, rfl⟩ := hp.int'; obtain ⟨u, rfl⟩ := hq.int'
    obtain ⟨hl, rfl⟩ := if_inv e
    exact mul_int (h _ _ .t (.int ..)) (.of_right (intBits_le_64 (by lia) (by lia)))
  | mod =>
    obtain ⟨i, j, e⟩ := int2_inv hr
    obtain ⟨t, rfl⟩ := hp.int'; obtain ⟨u, rfl⟩ := hq.int'
    obtain ⟨hl, rfl⟩ := if_inv e
    refine mod_int' (by lia) (h _ _ .t ?_)
    rw [Int.fmod_eq_emod_of_nonneg _ (by lia)]; exact .int ..
  | fdiv =>
    obtain ⟨i, j, e⟩ := int2_inv hr
    obtain ⟨t, rfl⟩ := hp.int'; obtain ⟨u, rfl⟩ := hq.int'
    obtain ⟨hl, rfl⟩ := if_inv e
    refine floordiv_int (by lia) (h _ _ .t ?_) (.inl (PyProof.noPylong_small (by lia)))
    rw [Int.fdiv_eq_ediv_of_nonneg _ (by lia)]; exact .int ..
  | shl =>
    obtain ⟨i, j, e⟩ := int2_inv hr
    obtain ⟨t, rfl⟩ := hp.int'; obtain ⟨u, rfl⟩ := hq.int'
    obtain ⟨⟨rfl, rfl⟩, rfl⟩ := if_inv e
    exact lshift_int_small (by decide) (by decide) (by decide) (h _ _ .t (.int ..))

theorem g_bop {σ σ₁ σ₂ : Store} {l : Loc} {o : Bop} {x y : E} {p q r : PV} (hx : Good P w K a d (.e x l σ) (.v p σ₁)) (hy : Good P w K a d (.e y l σ₁) (.v q σ₂)) (hr : bopV o p q = some r) :
    Good P w K a d (.e (.bop o x y) l σ) (.v r σ₂) := by
  intro c e A B ρ s ao hi ar st
  obtain ⟨e1, op, e2, pos, i1, i2, i3⟩ := isE_bop hi
  have ev : ∀ Q E, (∀ v s', OkE K a c.fr B ρ s r σ₂ v s' → Q v s') → wpAny (model P w) A (eval (.BinOp e1 op e2 pos) c.env) Q E s := fun Q E h => by
    refine wpAny_BinOp ((hx c e1 A B ρ s ao i2 ar st).1 _ _ fun v s₁ ⟨B₁, ρ₁, t₁, S₁, r₁⟩ => ?_)
    refine (hy c e2 A B₁ ρ₁ s₁ ao i3 ar (st.step t₁ S₁)).1 _ _ fun v₂ s₂ ⟨B₂, ρ₂, t₂, S₂, r₂⟩ => ?_
    exact bop_ok (r₁.mono t₂.base t₂.pre) r₂ i1 hr fun v s' z rv => h _ _ (okE_same (t₁.trans t₂) S₂ rv z)
  refine ⟨ev, fun b hb Q E h => ?_⟩
  subst hb
  refine isTrue_plain (ev _ _ fun v s' ⟨B', ρ', t', S', r'⟩ => ?_)
  obtain rfl := r'.bool'
  exact wpAny_truthy_bool (h _ ⟨B', ρ', t', S'⟩)
/-- from a value's promise to a test's, where the test is no form of its own -/
theorem test_of {c : Act} {e : XE} {A : Around} {B : Heap} {ρ : Rho} {s : Shared} {p : PV} {σ : Store} (hp : isTrue e c.env (eval e c.env) = (do let v ← eval e c.env; standAt e.pos; holding [v] (truthy v)))
    (ev : ∀ Q E, (∀ v s', OkE K a c.fr B ρ s p σ v s' → Q v s') → wpAny (model P w) A (eval e c.env) Q E s) : ∀ b, p = .bool b → ∀ Q E, (∀ s', OkB K a c.fr B ρ s σ s' → Q b s') → wpAny (model P w) A (isTrue e c.env (eval e c.env)) Q E s := by
  intro b hb Q E h
  subst hb
  refine isTrue_plain (ev _ _ fun v s' ⟨B', ρ', t', S', r'⟩ => ?_) hp
  obtain rfl := r'.bool'
  exact wpAny_truthy_bool (h _ ⟨B', ρ', t', S'⟩)
end
end Mine
end
section
open PySem PySem.W PyProof.Rows PySem.Calls
namespace Mine
section
variable {P : Program} {w : World} {K : Frag} {a : Adr} {d : Nat}

noncomputable def toPD : Nat → PV → PyData
  | _, .str l => .str (st l)
  | _, .int i => .int i
  | n + 1, .tup l => .tuple (l.map (toPD n))
  | _, _ => .none
theorem readsAll_of {h : Heap} (f : PV → PyData) : ∀ (l : List PV) (vs : List V), l.length = vs.length → (∀ (i : Nat) p v, l[i]? = some p → vs[i]? = some v → ∃ as, Reads h v (f p) as) → ∃ as, ReadsAll h vs (l.map f) as
  | [], [], _, _ => ⟨_, .nil⟩
  | [], _ :: _, e, _ => by simp at e
  | _ :: _, [], e, _ => by simp at e
  | p :: l, v :: vs, e, k => by
    obtain ⟨as, r⟩ := k 0 p v rfl rfl
    obtain ⟨bs, q⟩ := readsAll_of f l vs (by simpa using e) fun i p v x y => k (i + 1) p v (by simpa using x) (by simpa using y)
    exact ⟨_, .cons r q⟩
theorem depthAll_le (f : PV → PyData) (n : Nat) : ∀ l : List PV, (∀ p ∈ l, (f p).depth ≤ n) → PyData.depthAll (l.map f) ≤ n
  | [], _ => by simp [PyData.depthAll]
  | p :: l, k => by
    simp only [List.map_cons, PyData.depthAll]
    exact Nat.max_le.mpr ⟨k p (.head _), depthAll_le f n l fun q m => k q (.tail _ m)⟩
theorem canAll (f : PV → PyData) : ∀ l : List PV, (∀ p ∈ l, (f p).canLay0 = true) → PyData.canLayAll0 (l.map f) = true
  | [], _ => by simp [PyData.canLayAll0]
  | p :: l, k => by
    simp only [List.map_cons, PyData.canLayAll0, Bool.and_eq_true]
    exact ⟨k p (.head _), canAll f l fun q m => k q (.tail _ m)⟩
set_option tactic.hygienic true in
theorem data_of {B h : Heap} {ρ : Rho} (hB : B.StaysIn h) : ∀ (n : Nat) (p : PV) (v : V), okD n p = true → RepV a.cls B ρ p v → (∃ as, Reads h v (toPD n p) as) ∧ (toPD n p).canLay0 = true ∧ (toPD n p).depth ≤ n := by
  intro n
  induction n with
  | zero =>
    intro p v hk hr
    cases p <;> first | (simp [okD] at hk; done) | skip
    · obtain ⟨t, rfl⟩ := hr.int'
      exact ⟨⟨_, .int ..⟩, by simp [toPD, PyData.canLay0], by simp [toPD, PyData.depth]⟩
    · obtain ⟨t, rfl⟩ := hr.str'
      rename_i l
      refine ⟨⟨_, .str ..⟩, ?_, by simp [toPD, PyData.depth]⟩
      simpa [toPD, PyData.canLay0, PyData.strOk, okD, st] using hk
  | succ n ih =>
    intro p v hk hr
    cases p <;> first | (simp [okD] at hk; done) | skip
    · obtain ⟨t, rfl⟩ := hr.int'
      exact ⟨⟨_, .int ..⟩, by simp [toPD, PyData.canLay0], by simp [toPD, PyData.depth]⟩
    · obtain ⟨t, rfl⟩ := hr.str'
      rename_i l
      refine ⟨⟨_, .str ..⟩, ?_, by simp [toPD, PyData.depth]⟩
      simpa [toPD, PyData.canLay0, PyData.strOk, okD, st] using hk
    · rename_i l
      cases hr
      rename_i xs b o m h1 h2 h3 h4 h5
      have hk' : ∀ p ∈ l, okD n p = true := by simpa [okD] using hk
      have len : l.length = xs.toList.length := by simpa using h4
      have each : ∀ (i : Nat) p v, l[i]? = some p → xs.toList[i]? = some v → RepV a.cls B ρ p v := fun i p v x y => h5 i p v x (by simpa using y)
      refine ⟨?_, ?_, ?_⟩
      · obtain ⟨as, q⟩ := readsAll_of (toPD n) l xs.toList len fun i p v x y => (ih p v (hk' p (List.mem_of_getElem? x)) (each i p v x y)).1
        exact ⟨_, .tuple (hB _ _ h1) h2 h3 q⟩
      · show PyData.canLayAll0 _ = true
        refine canAll _ l fun p hp => ?_
        obtain ⟨i, hi⟩ := List.mem_iff_getElem?.mp hp
        have : i < xs.toList.length := by rw [← len]; exact (List.getElem?_eq_some_iff.mp hi).1
        exact (ih p _ (hk' p hp) (each i p _ hi (List.getElem?_eq_getElem this))).2.1
      · show PyData.depthAll _ + 1 ≤ n + 1
        refine Nat.succ_le_succ (depthAll_le _ n l fun p hp => ?_)
        obtain ⟨i, hi⟩ := List.mem_iff_getElem?.mp hp
        have : i < xs.toList.length := by rw [← len]; exact (List.getElem?_eq_some_iff.mp hi).1
        exact (ih p _ (hk' p hp) (each i p _ hi (List.getElem?_eq_getElem this))).2.2
theorem eqv_all (n : Nat) (ih : ∀ p q, okD n p = true → okD n q = true → PyData.eqv (toPD n p) (toPD n q) = eqB n p q) : ∀ l r : List PV, l.all (okD n) = true → r.all (okD n) = true → PyData.eqvAll (l.map (toPD n)) (r.map (toPD n)) = eqL (eqB n) l r
  | [], [], _, _ => by simp [PyData.eqvAll, eqL]
  | [], _ :: _, _, _ => by simp [PyData.eqvAll, eqL]
  | _ :: _, [], _, _ => by simp [PyData.eqvAll, eqL]
  | p :: l, q :: r, hl, hr => by
    simp only [List.all_cons, Bool.and_eq_true] at hl hr
    simp only [List.map_cons, PyData.eqvAll, eqL]
    rw [ih p q hl.1 hr.1, eqv_all n ih l r hl.2 hr.2]
theorem eqv_of : ∀ (n : Nat) (p q : PV), okD n p = true → okD n q = true → PyData.eqv (toPD n p) (toPD n q) = eqB n p q := by
  intro n
  induction n with
  | zero =>
    intro p q hp hq
    cases p <;> first | (simp [okD] at hp; done) | skip
    all_goals (cases q <;> first | (simp [okD] at hq; done) | (simp [toPD, PyData.eqv, eqB, st_beq]; done))
  | succ n ih =>
    intro p q hp hq
    cases p <;> first | (simp [okD] at hp; done) | skip
    all_goals (cases q <;> first | (simp [okD] at hq; done) | (simp [toPD, PyData.eqv, eqB, st_beq]; done) | skip)
    simp only [toPD, PyData.eqv, eqB]
    exact eqv_all n ih _ _ hp hq

set_option tactic.hygienic true in
theorem inTup_all {B : Heap} {ρ : Rho} (x : List Nat) : ∀ (l : List PV) (vs : List V) (b : Bool), l.length = vs.length → (∀ (i : Nat) p v, l[i]? = some p → vs[i]? = some v → RepV a.cls B ρ p v) → inTup x l = some b → ∃ ys, StrsAre vs ys ∧ ys.any (· == st x) = b
  | [], [], b, _, _, e => by cases e; exact ⟨[], .nil, rfl⟩
  | [], _ :: _, _, e, _, _ => by simp at e
  | _ :: _, [], _, e, _, _ => by simp at e
  | p :: l, v :: vs, b, e, k, h => by
    cases p <;> first | (simp [inTup] at h; done) | skip
    rename_i y
    simp only [inTup] at h
    obtain ⟨b', h1, h2⟩ := Option.map_eq_some_iff.mp h
    obtain ⟨ys, q1, q2⟩ := inTup_all x l vs b' (by simpa using e) (fun i p v x y => k (i + 1) p v (by simpa using x) (by simpa using y)) h1
    obtain ⟨t, rfl⟩ := (k 0 _ v rfl rfl).str'
    refine ⟨st y :: ys, .cons _ _ q1, ?_⟩
    rw [List.any_cons, q2, st_beq, ← h2]
    rw [show (y == x) = (x == y) from by rw [Bool.eq_iff_iff, beq_iff_eq, beq_iff_eq]; exact eq_comm]

inductive EqOk (r : Bool) : PV → PV → Prop
  | int (a b : Int) (h : r = (a == b)) : EqOk r (.int a) (.int b)
  | str (a b : List Nat) (h : r = (a == b)) : EqOk r (.str a) (.str b)
  | tup (a b : List PV) (h1 : okD 60 (.tup a) = true) (h2 : okD 60 (.tup b) = true) (h : r = eqB 60 (.tup a) (.tup b)) : EqOk r (.tup a) (.tup b)
theorem eqV_inv {r : Bool} {p q : PV} (h : eqV p q = some r) : EqOk r p q := by
  cases p with
  | int i =>
    obtain ⟨j, h2, h⟩ := Option.map_eq_some_iff.mp h
    rw [asInt_inv h2]; exact .int i j h.symm
  | str x =>
    obtain ⟨y, h2, h⟩ := Option.map_eq_some_iff.mp h
    rw [asStr_inv h2]; exact .str x y h.symm
  | tup x =>
    obtain ⟨y, h2, h⟩ := Option.bind_eq_some_iff.mp h
    rw [asTup_inv h2]; exact .tup x y (and_inv (if_inv h).1).1 (and_inv (if_inv h).1).2 (if_inv h).2
  | _ => cases h
inductive InOk (r : Bool) : PV → PV → Prop
  | mk (a : List Nat) (l : List PV) (h : inTup a l = some r) : InOk r (.str a) (.tup l)
theorem inV_inv {r : Bool} {p q : PV} (h : inV p q = some r) : InOk r p q := by
  obtain ⟨x, h1, h⟩ := Option.bind_eq_some_iff.mp h
  obtain ⟨l, h2, h⟩ := Option.bind_eq_some_iff.mp h
  rw [asStr_inv h1, asTup_inv h2]
  exact .mk x l h
inductive NotinOk (r : Bool) : PV → PV → Prop
  | mk (c : Nat) (l : List Nat) (h : r = !l.contains c) : NotinOk r (.str [c]) (.str l)
theorem one_inv {p : PV} {c : Nat} (h : (asStr p).bind asOne = some c) : p = .str [c] := by
  obtain ⟨l, h1, h⟩ := Option.bind_eq_some_iff.mp h
  rw [asStr_inv h1, asOne_inv h]
theorem notinV_inv {r : Bool} {p q : PV} (h : notinV p q = some r) : NotinOk r p q := by
  obtain ⟨c, h1, h⟩ := Option.bind_eq_some_iff.mp h
  obtain ⟨l, h2, h⟩ := Option.map_eq_some_iff.mp h
  rw [one_inv h1, asStr_inv h2]
  exact .mk c l h.symm
set_option tactic.hygienic true in
theorem cmp_ok {A : Around} {B : Heap} {ρ : Rho} {s : Shared} {o : Cop} {op : CmpOp} {p q : PV} {r : Bool} {x y : V} {Q : V → Shared → Prop} {E : V → Shared → Prop} (hu : A.units + 64 < cLine) (hB : B.StaysIn s.heap) (hp : RepV a.cls B ρ p x) (hq : RepV a.cls B ρ q y) (ho : copIs o op = true) (hr : cmpV o p q = some r)
    (h : Q (.bool r) s) : wpAny (model P w) A (compareOp op x y) Q E s := by
  obtain rfl := dec_inv ho
  cases o with
  | lt =>
    obtain ⟨i, j, e⟩ := int2_inv hr
    obtain ⟨t, rfl⟩ := hp.int'; obtain ⟨u, rfl⟩ := hq.int'
    obtain rfl := Option.some.inj e
    exact lt_int h
  | le =>
    obtain ⟨i, j, e⟩ := int2_inv hr
    obtain ⟨t, rfl⟩ := hp.int'; obtain ⟨u, rfl⟩ := hq.int'
    obtain rfl := Option.some.inj e
    exact le_int h
  | gt =>
    obtain ⟨i, j, e⟩ := int2_inv hr
    obtain ⟨t, rfl⟩ := hp.int'; obtain ⟨u, rfl⟩ := hq.int'
    obtain rfl := Option.some.inj e
    exact gt_int h
  | ge =>
    obtain ⟨i, j, e⟩ := int2_inv hr
    obtain ⟨t, rfl⟩ := hp.int'; obtain ⟨u, rfl⟩ := hq.int'
    obtain rfl := Option.some.inj e
    exact ge_int h
  | eq =>
    cases eqV_inv hr with
    | int i j e => obtain ⟨t, rfl⟩ := hp.int'; obtain ⟨u, rfl⟩ := hq.int'; subst e; exact eq_int h
    | str l l' e => obtain ⟨t, rfl⟩ := hp.str'; obtain ⟨u, rfl⟩ := hq.str'; subst e; exact eq_str (by rw [st_beq]; exact h)
    | tup l l' k1 k2 e =>
      subst e
      obtain ⟨⟨as, r1⟩, c1, d1⟩ := data_of hB 60 _ _ k1 hp
      obtain ⟨⟨bs, r2⟩, c2, d2⟩ := data_of hB 60 _ _ k2 hq
      refine SeqAt.compareEq_reads r1 r2 c1 c2 (by lia) ?_
      rw [eqv_of 60 _ _ k1 k2]; exact h
  | ne =>
    obtain ⟨b, hb, rfl⟩ := Option.map_eq_some_iff.mp hr
    cases eqV_inv hb with
    | int i j e => obtain ⟨t, rfl⟩ := hp.int'; obtain ⟨u, rfl⟩ := hq.int'; subst e; exact ne_int h
    | str l l' e =>
      obtain ⟨t, rfl⟩ := hp.str'; obtain ⟨u, rfl⟩ := hq.str'; subst e
      refine ne_str ?_
      rw [show (st _ != st _) = !(st _ == st _) from rfl, st_beq]; exact h
    | tup l l' k1 k2 e =>
      subst e
      obtain ⟨⟨as, r1⟩, c1, d1⟩ := data_of hB 60 _ _ k1 hp
      obtain ⟨⟨bs, r2⟩, c2, d2⟩ := data_of hB 60 _ _ k2 hq
      refine SeqAt.compareNe_reads r1 r2 c1 c2 (by lia) ?_
      rw [eqv_of 60 _ _ k1 k2]; exact h
  | isin =>
    obtain ⟨l, xs', e⟩ := inV_inv hr
    obtain ⟨t, rfl⟩ := hp.str'
    cases hq
    rename_i xs b o m h1 h2 h3 h4 h5
    obtain ⟨ys, q1, q2⟩ := inTup_all (a := a) (B := B) (ρ := ρ) _ _ xs.toList r (by simpa using h4) (fun i p v x y => h5 i p v x (by simpa using y)) e
    exact in_tuple_strs ⟨o, hB _ _ h1, h2, m, h3⟩ q1 (by rw [q2]; exact h)
  | notin =>
    obtain ⟨c, l, e⟩ := notinV_inv hr
    subst e
    obtain ⟨t, rfl⟩ := hp.str'; obtain ⟨u, rfl⟩ := hq.str'
    refine PyProof.Rows.notIn_str ?_
    rw [show st [c] = ⟨#[c]⟩ from rfl, StrLaws.found_one, show decide (c ∈ (st l).cps.toList) = l.contains c from by rw [Bool.eq_iff_iff]; simp [st]; exact decide_eq_true_iff]
    exact h

theorem Ar.u64 {A : Around} {fr : List Env} (ar : Ar A fr d) : A.units + 64 < cLine := by have := ar.units; lia

theorem g_cmp {σ σ₁ σ₂ : Store} {l : Loc} {o : Cop} {x y : E} {p q : PV} {r : Bool} (hx : Good P w K a d (.e x l σ) (.v p σ₁)) (hy : Good P w K a d (.e y l σ₁) (.v q σ₂)) (hr : cmpV o p q = some r) :
    Good P w K a d (.e (.cmp x o y) l σ) (.v (.bool r) σ₂) := by
  intro c e A B ρ s ao hi ar st
  obtain ⟨e1, op, e2, pos, i1, i2, i3, i4⟩ := isE_cmp hi
  refine ⟨fun Q E h => ?_, fun b hb Q E h => ?_⟩
  · refine wpAny_Compare1 ((hx c e1 A B ρ s ao i2 ar st).1 _ _ fun v s₁ ⟨B₁, ρ₁, t₁, S₁, r₁⟩ => ?_) i4
    refine (hy c e2 A B₁ ρ₁ s₁ ao i3 ar (st.step t₁ S₁)).1 _ _ fun v₂ s₂ ⟨B₂, ρ₂, t₂, S₂, r₂⟩ => ?_
    exact cmp_ok ar.u64 S₂.stays (r₁.mono t₂.base t₂.pre) r₂ i1 hr (h _ _ ⟨_, _, t₁.trans t₂, S₂, .bool _⟩)
  · cases hb
    refine wpAny_isTrue_Compare1 ((hx c e1 A B ρ s ao i2 ar st).1 _ _ fun v s₁ ⟨B₁, ρ₁, t₁, S₁, r₁⟩ => ?_) i4
    refine (hy c e2 A B₁ ρ₁ s₁ ao i3 ar (st.step t₁ S₁)).1 _ _ fun v₂ s₂ ⟨B₂, ρ₂, t₂, S₂, r₂⟩ => ?_
    exact cmp_ok ar.u64 S₂.stays (r₁.mono t₂.base t₂.pre) r₂ i1 hr (wpAny_truthy_bool (h _ ⟨_, _, t₁.trans t₂, S₂⟩))

theorem marked2 {op op' : CmpOp} {e2 e3 : XE} {t2 t3 : Sem V} (h : behindInMarks op' e3 = false) : markedEach [op, op'] [e2, e3] [t2, t3] = [t2, t3] := by
  show t2 :: markedEach [op'] [e3] [t3] = _
  show t2 :: [markedBehindIn op' e3 t3] = _
  rw [markedBehindIn_of_false h]
theorem g_cmp2 {σ σ₁ σ₂ σ₃ : Store} {l : Loc} {o o' : Cop} {x y z : E} {p q u : PV} {r r' : Bool} (hx : Good P w K a d (.e x l σ) (.v p σ₁)) (hy : Good P w K a d (.e y l σ₁) (.v q σ₂)) (hr : cmpV o p q = some r)
    (hz : r = true → Good P w K a d (.e z l σ₂) (.v u σ₃) ∧ cmpV o' q u = some r') (hf : r = false → σ₃ = σ₂ ∧ r' = false) :
    Good P w K a d (.e (.cmp2 x o y o' z) l σ) (.v (.bool r') σ₃) := by
  intro c e A B ρ s ao hi ar st
  obtain ⟨e1, op, op', e2, e3, pos, i1, i1', i2, i3, i4, i5, i6⟩ := isE_cmp2 hi
  have core : ∀ {α : Type} (F : V → Sem α) (Q : α → Shared → Prop) (E : V → Shared → Prop), (∀ (b : Bool) s', OkB K a c.fr B ρ s σ₃ s' → b = r' → wpAny (model P w) A (F (.bool b)) Q E s') → (r = false → True) → True := fun _ _ _ _ _ => trivial
  refine ⟨fun Q E h => ?_, fun b hb Q E h => ?_⟩
  · rw [arm_eval_Compare]
    refine wpAny_bind ((hx c e1 A B ρ s ao i2 ar st).1 _ _ fun v s₁ ⟨B₁, ρ₁, t₁, S₁, r₁⟩ => ?_)
    rw [show markedEach [op, op'] [e2, e3] (evalEach [e2, e3] c.env) = [eval e2 c.env, eval e3 c.env] from marked2 i6]
    unfold compareChain
    refine wpAny_bind (wpAny_holding ((hy c e2 A B₁ ρ₁ s₁ ao i3 ar (st.step t₁ S₁)).1 _ _ fun v₂ s₂ ⟨B₂, ρ₂, t₂, S₂, r₂⟩ => ?_))
    refine wpAny_bind (wpAny_standAt (wpAny_bind (wpAny_holding (cmp_ok ar.u64 S₂.stays (r₁.mono t₂.base t₂.pre) r₂ i1 hr ?_))))
    refine wpAny_bind (wpAny_release (wpAny_bind (wpAny_holding (wpAny_truthy_bool ?_))))
    cases r with
    | false => obtain ⟨rfl, rfl⟩ := hf rfl; exact wpAny_pure (h _ _ ⟨_, _, t₁.trans t₂, S₂, .bool _⟩)
    | true =>
      obtain ⟨hz, hr'⟩ := hz rfl
      rw [if_pos rfl]
      unfold compareChain
      refine wpAny_bind (wpAny_holding ((hz c e3 A B₂ ρ₂ s₂ ao i4 ar (st.step (t₁.trans t₂) S₂)).1 _ _ fun v₃ s₃ ⟨B₃, ρ₃, t₃, S₃, r₃⟩ => ?_))
      exact wpAny_bind (wpAny_standAt (wpAny_operate' (cmp_ok ar.u64 S₃.stays (r₂.mono t₃.base t₃.pre) r₃ i1' hr' (h _ _ ⟨_, _, (t₁.trans t₂).trans t₃, S₃, .bool _⟩))))
  · cases hb
    rw [arm_isTrue_Compare]
    refine wpAny_bind ((hx c e1 A B ρ s ao i2 ar st).1 _ _ fun v s₁ ⟨B₁, ρ₁, t₁, S₁, r₁⟩ => ?_)
    rw [show markedEach [op, op'] [e2, e3] (evalEach [e2, e3] c.env) = [eval e2 c.env, eval e3 c.env] from marked2 i6]
    unfold testChain
    refine wpAny_bind (wpAny_holding ((hy c e2 A B₁ ρ₁ s₁ ao i3 ar (st.step t₁ S₁)).1 _ _ fun v₂ s₂ ⟨B₂, ρ₂, t₂, S₂, r₂⟩ => ?_))
    refine wpAny_bind (wpAny_standAt (wpAny_bind (wpAny_holding (cmp_ok ar.u64 S₂.stays (r₁.mono t₂.base t₂.pre) r₂ i1 hr ?_))))
    refine wpAny_bind (wpAny_release (wpAny_bind (wpAny_holding (wpAny_truthy_bool ?_))))
    cases r with
    | false => obtain ⟨rfl, rfl⟩ := hf rfl; exact wpAny_pure (h _ ⟨_, _, t₁.trans t₂, S₂⟩)
    | true =>
      obtain ⟨hz, hr'⟩ := hz rfl
      rw [if_pos rfl]
      unfold testChain
      refine wpAny_bind (wpAny_holding ((hz c e3 A B₂ ρ₂ s₂ ao i4 ar (st.step (t₁.trans t₂) S₂)).1 _ _ fun v₃ s₃ ⟨B₃, ρ₃, t₃, S₃, r₃⟩ => ?_))
      exact wpAny_bind (wpAny_standAt (wpAny_bind (wpAny_operate' (cmp_ok ar.u64 S₃.stays (r₂.mono t₃.base t₃.pre) r₃ i1' hr' (wpAny_holding (wpAny_truthy_bool (h _ ⟨_, _, (t₁.trans t₂).trans t₃, S₃⟩)))))))

theorem g_not {σ σ₁ : Store} {l : Loc} {x : E} {b : Bool} (hx : Good P w K a d (.e x l σ) (.v (.bool b) σ₁)) : Good P w K a d (.e (.not x) l σ) (.v (.bool (!b)) σ₁) := by
  intro c e A B ρ s ao hi ar st
  obtain ⟨e1, pos, hi⟩ := isE_not hi
  refine ⟨fun Q E h => ?_, fun b' hb Q E h => ?_⟩
  · refine wpAny_UnaryOp ((hx c e1 A B ρ s ao hi ar st).1 _ _ fun v s₁ ⟨B₁, ρ₁, t₁, S₁, r₁⟩ => ?_)
    obtain rfl := r₁.bool'
    exact not_of (wpAny_truthy_bool (h _ _ ⟨_, _, t₁, S₁, .bool _⟩))
  · cases hb
    exact wpAny_isTrue_Not ((hx c e1 A B ρ s ao hi ar st).2 b rfl _ _ fun s' ok => h _ ok)

theorem g_ite {σ σ₁ σ₂ : Store} {l : Loc} {t x y : E} {b : Bool} {p : PV} (ht : Good P w K a d (.e t l σ) (.v (.bool b) σ₁)) (hx : Good P w K a d (.e (if b then x else y) l σ₁) (.v p σ₂)) : Good P w K a d (.e (.ite t x y) l σ) (.v p σ₂) := by
  intro c e A B ρ s ao hi ar st
  obtain ⟨e0, e1, e2, pos, i1, i2, i3⟩ := isE_ite hi
  refine ⟨fun Q E h => ?_, fun b' hb Q E h => ?_⟩
  · refine wpAny_IfExp ((ht c e0 A B ρ s ao i1 ar st).2 b rfl _ _ fun s₁ ⟨B₁, ρ₁, t₁, S₁⟩ => ?_)
    cases b with
    | true => rw [if_pos rfl]; exact (hx c e1 A B₁ ρ₁ s₁ ao i2 ar (st.step t₁ S₁)).1 _ _ fun v s' ok => h _ _ (ok.pre t₁)
    | false => rw [if_neg Bool.false_ne_true]; exact (hx c e2 A B₁ ρ₁ s₁ ao i3 ar (st.step t₁ S₁)).1 _ _ fun v s' ok => h _ _ (ok.pre t₁)
  · rw [arm_isTrue_IfExp]
    refine wpAny_bind ((ht c e0 A B ρ s ao i1 ar st).2 b rfl _ _ fun s₁ ⟨B₁, ρ₁, t₁, S₁⟩ => ?_)
    cases b with
    | true => rw [if_pos rfl]; exact (hx c e1 A B₁ ρ₁ s₁ ao i2 ar (st.step t₁ S₁)).2 b' hb _ _ fun s' ok => h _ (ok.pre t₁)
    | false => rw [if_neg Bool.false_ne_true]; exact (hx c e2 A B₁ ρ₁ s₁ ao i3 ar (st.step t₁ S₁)).2 b' hb _ _ fun s' ok => h _ (ok.pre t₁)

theorem allTrue_one {A : Around} {s : Shared} {env : Env} {k : BoolOp} {e : XE} {b : Bool} {Q : Bool → Shared → Prop} {E : V → Shared → Prop} (h : wpAny (model P w) A (isTrue e env (eval e env)) (fun b' s' => b' = b ∧ Q b s') E s) : wpAny (model P w) A (allTrue k [e] env) Q E s := by
  rw [arm_allTrue_cons]
  refine wpAny_bind (wpAny_mono h (fun b' s' z => ?_) fun _ _ z => z)
  obtain ⟨rfl, z⟩ := z
  cases k <;> cases b' <;> exact wpAny_pure z

theorem g_bools1 {σ σ₁ : Store} {l : Loc} {k : Bool} {x : E} {b : Bool} (hx : Good P w K a d (.e x l σ) (.v (.bool b) σ₁)) : Good P w K a d (.bools k [x] l σ) (.v (.bool b) σ₁) := by
  refine ⟨b, rfl, fun c es pos A B ρ s ao hi ar st => ?_⟩
  obtain ⟨e, q, i1, i2, i3⟩ := isEs_cons hi
  obtain rfl := isEs_nil i3
  refine ⟨fun Q E h => ?_, fun Q E h => ?_⟩
  · exact (hx c e A B ρ s ao i1 ar st).1 _ _ fun v s' ok => by
      obtain ⟨B₁, ρ₁, t₁, S₁, r₁⟩ := ok
      obtain rfl := r₁.bool'
      exact h _ ⟨B₁, ρ₁, t₁, S₁⟩
  · exact allTrue_one ((hx c e A B ρ s ao i1 ar st).2 b rfl _ _ fun s' ok => ⟨rfl, h _ ok⟩)

theorem g_bools2 {σ σ₁ σ₂ : Store} {l : Loc} {k : Bool} {x y : E} {r : List E} {b b' : Bool} (hx : Good P w K a d (.e x l σ) (.v (.bool b) σ₁))
    (h1 : b = k → Good P w K a d (.bools k (y :: r) l σ₁) (.v (.bool b') σ₂)) (h2 : b ≠ k → b' = b ∧ σ₂ = σ₁) : Good P w K a d (.bools k (x :: y :: r) l σ) (.v (.bool b') σ₂) := by
  refine ⟨b', rfl, fun c es pos A B ρ s ao hi ar st => ?_⟩
  obtain ⟨e, q, i1, i2, i3⟩ := isEs_cons hi
  obtain ⟨e', q', j1, j2, j3⟩ := isEs_cons i3
  have g := hx c e A B ρ s ao i1 ar st
  refine ⟨fun Q E h => ?_, fun Q E h => ?_⟩
  · show wpAny _ _ (boolOp pos _ (eval e c.env :: eval e' c.env :: evalEach q' c.env)) _ _ _
    unfold boolOp
    refine wpAny_bind (g.1 _ _ fun v s₁ ok => ?_)
    obtain ⟨B₁, ρ₁, t₁, S₁, r₁⟩ := ok
    obtain rfl := r₁.bool'
    refine wpAny_bind (wpAny_standAt (wpAny_bind (wpAny_holding (wpAny_truthy_bool ?_))))
    by_cases hb : b = k
    · obtain ⟨_, e0, u⟩ := h1 hb
      cases e0
      obtain ⟨u1, u2⟩ := u c (e' :: q') pos A B₁ ρ₁ s₁ ao i3 ar (st.step t₁ S₁)
      have z := u1 Q E fun s' ok => h _ (ok.pre t₁)
      subst hb
      cases b <;> exact z
    · obtain ⟨rfl, rfl⟩ := h2 hb
      have z := h _ ⟨B₁, ρ₁, t₁, S₁⟩
      cases k <;> cases b' <;> first | exact absurd rfl hb | exact wpAny_pure z
  · rw [arm_allTrue_cons]
    refine wpAny_bind (g.2 b rfl _ _ fun s₁ ok => ?_)
    obtain ⟨B₁, ρ₁, t₁, S₁⟩ := ok
    by_cases hb : b = k
    · obtain ⟨_, e0, u⟩ := h1 hb
      cases e0
      obtain ⟨u1, u2⟩ := u c (e' :: q') pos A B₁ ρ₁ s₁ ao i3 ar (st.step t₁ S₁)
      have z := u2 Q E fun s' ok => h _ (ok.pre t₁)
      subst hb
      cases b <;> exact z
    · obtain ⟨rfl, rfl⟩ := h2 hb
      have z := h _ ⟨B₁, ρ₁, t₁, S₁⟩
      cases k <;> cases b' <;> first | exact absurd rfl hb | exact wpAny_pure z

theorem g_and {σ σ₁ : Store} {l : Loc} {xs : List E} {p : PV} (h : Good P w K a d (.bools true xs l σ) (.v p σ₁)) : Good P w K a d (.e (.and xs) l σ) (.v p σ₁) := by
  intro c e A B ρ s ao hi ar st
  obtain ⟨es, pos, hi⟩ := isE_and hi
  obtain ⟨_, e0, u⟩ := h
  cases e0
  obtain ⟨u1, u2⟩ := u c es pos A B ρ s ao hi ar st
  exact ⟨fun Q E k => u1 Q E fun s' ok => k _ _ ok.e, fun b' hb Q E k => by cases hb; exact wpAny_isTrue_BoolOp (u2 Q E k)⟩
theorem g_or {σ σ₁ : Store} {l : Loc} {xs : List E} {p : PV} (h : Good P w K a d (.bools false xs l σ) (.v p σ₁)) : Good P w K a d (.e (.or xs) l σ) (.v p σ₁) := by
  intro c e A B ρ s ao hi ar st
  obtain ⟨es, pos, hi⟩ := isE_or hi
  obtain ⟨_, e0, u⟩ := h
  cases e0
  obtain ⟨u1, u2⟩ := u c es pos A B ρ s ao hi ar st
  exact ⟨fun Q E k => u1 Q E fun s' ok => k _ _ ok.e, fun b' hb Q E k => by cases hb; exact wpAny_isTrue_BoolOp (u2 Q E k)⟩

-- argument lists
theorem star_cons {c : Act} {e : XE} {r : List XE} (h : noStar e = true) : starEach (e :: r) c.env = (false, eval e c.env) :: starEach r c.env := by
  cases e <;> first | rfl | exact absurd h Bool.false_ne_true
theorem g_es_nil {σ : Store} {l : Loc} : Good P w K a d (.es [] l σ) (.vs [] σ) := by
  refine ⟨rfl, fun c es pos A B ρ s ao hi ar st Q E h => ?_⟩
  obtain rfl := isEs_nil hi
  exact args_nil (h _ _ ⟨B, ρ, .refl .., st.1, rfl, fun i p v e => by simp at e⟩)
theorem Reps.cons {B : Heap} {ρ : Rho} {p : PV} {l : List PV} {v : V} {vs : List V} (h : RepV a.cls B ρ p v) (k : Reps a B ρ l vs) : Reps a B ρ (p :: l) (v :: vs) := by
  refine ⟨by simp [k.1], fun i q u x y => ?_⟩
  cases i with
  | zero => cases x; cases y; exact h
  | succ i => exact k.2 i q u (by simpa using x) (by simpa using y)
theorem g_es_cons {σ σ₁ σ₂ : Store} {l : Loc} {x : E} {r : List E} {p : PV} {ps : List PV} (hx : Good P w K a d (.e x l σ) (.v p σ₁)) (hr : Good P w K a d (.es r l σ₁) (.vs ps σ₂)) : Good P w K a d (.es (x :: r) l σ) (.vs (p :: ps) σ₂) := by
  refine ⟨by simp [hr.1], fun c es pos A B ρ s ao hi ar st Q E h => ?_⟩
  obtain ⟨e, q, i1, i2, i3⟩ := isEs_cons hi
  refine args_cons ((hx c e A B ρ s ao i1 ar st).1 _ _ fun v s₁ ⟨B₁, ρ₁, t₁, S₁, r₁⟩ => ?_) (star_cons i2)
  exact hr.2 c q pos A B₁ ρ₁ s₁ ao i3 ar (st.step t₁ S₁) _ _ fun vs s₂ ⟨B₂, ρ₂, t₂, S₂, r₂⟩ => h _ _ ⟨B₂, ρ₂, t₁.trans t₂, S₂, Reps.cons (r₁.mono t₂.base t₂.pre) r₂⟩
theorem x_es1 {σ σ₁ : Store} {l : Loc} {x : E} {r : List E} (hx : Good P w K a d (.e x l σ) (.exc σ₁)) : Good P w K a d (.es (x :: r) l σ) (.exc σ₁) := by
  intro c es pos A B ρ s ao hi ar st Q E h
  obtain ⟨e, q, i1, i2, i3⟩ := isEs_cons hi
  exact args_cons (hx c e A B ρ s ao i1 ar st _ _ h) (star_cons i2)
theorem x_es2 {σ σ₁ σ₂ : Store} {l : Loc} {x : E} {r : List E} {p : PV} (hx : Good P w K a d (.e x l σ) (.v p σ₁)) (hr : Good P w K a d (.es r l σ₁) (.exc σ₂)) : Good P w K a d (.es (x :: r) l σ) (.exc σ₂) := by
  intro c es pos A B ρ s ao hi ar st Q E h
  obtain ⟨e, q, i1, i2, i3⟩ := isEs_cons hi
  refine args_cons ((hx c e A B ρ s ao i1 ar st).1 _ _ fun v s₁ ⟨B₁, ρ₁, t₁, S₁, r₁⟩ => ?_) (star_cons i2)
  exact hr c q pos A B₁ ρ₁ s₁ ao i3 ar (st.step t₁ S₁) _ _ fun v s' x => h _ _ (x.pre' t₁)
end
end Mine
end
section
open PySem PySem.W PyProof.Rows PySem.Calls
namespace Mine
section
variable {P : Program} {w : World} {K : Frag} {a : Adr} {d : Nat}

/-- the base and some more of the heap's things -/
noncomputable def growH (B h : Heap) (keep : List Addr) : Heap := hideAll h ((List.range h.objs.size).filter fun b => (B.get? b).isNone && !keep.contains b)
theorem growH_in {B h : Heap} {keep : List Addr} {b : Addr} {o : Obj} (e : h.get? b = some o) (k : (B.get? b).isSome = true ∨ b ∈ keep) : (growH B h keep).get? b = some o := by
  refine hideAll_get _ e fun m => ?_
  obtain ⟨_, q⟩ := List.mem_filter.mp m
  simp only [Bool.and_eq_true, Option.isNone_iff_eq_none, Bool.not_eq_true', List.contains_eq_mem, decide_eq_false_iff_not] at q
  rcases k with k | k
  · rw [q.1] at k; cases k
  · exact q.2 k
theorem growH_stays {B h : Heap} {keep : List Addr} : (growH B h keep).StaysIn h := fun b o e => of_hideAll _ e
theorem growH_base {B h : Heap} {keep : List Addr} (k : B.StaysIn h) : B.StaysIn (growH B h keep) := fun b o e => growH_in (k b o e) (.inl (by rw [e]; rfl))
theorem growH_of {B h : Heap} {keep : List Addr} {b : Addr} {o : Obj} (e : (growH B h keep).get? b = some o) : (∃ o', B.get? b = some o') ∨ b ∈ keep := by
  by_cases q : b ∈ keep
  · exact .inr q
  · cases z : B.get? b with
    | some o' => exact .inl ⟨o', rfl⟩
    | none =>
      exfalso
      have hb := Heap.lt_size (of_hideAll _ e)
      have : b ∈ (List.range h.objs.size).filter fun b => (B.get? b).isNone && !keep.contains b := by
        refine List.mem_filter.mpr ⟨List.mem_range.mpr hb, ?_⟩
        simp [z, q]
      have := hideAll_none (h := h) _ this
      unfold growH at e
      rw [this] at e; cases e
theorem growH_none {B h : Heap} {keep : List Addr} {b : Addr} (n : B.get? b = none) (k : b ∉ keep) : (growH B h keep).get? b = none := by
  cases e : (growH B h keep).get? b with
  | none => rfl
  | some o =>
    rcases growH_of e with ⟨o', q⟩ | q
    · rw [n] at q; cases q
    · exact absurd q k

theorem own_alive {B : Heap} {ρ : Rho} {σ : Store} {h : Heap} (S : St0 a.cls K B ρ σ h) {b : Addr} (x : isOwn ρ b) : ∃ o, h.get? b = some o := by
  obtain ⟨p, hp, e⟩ := x
  obtain ⟨i, hi⟩ := List.mem_iff_getElem?.mp hp
  have hl : i < σ.length := by rw [← S.len]; exact (List.getElem?_eq_some_iff.mp hi).1
  have M := S.mo i _ p (List.getElem?_eq_getElem hl) hi
  obtain ⟨p1, p2⟩ := p
  cases q : σ[i] with
  | lst l =>
    rw [q] at M
    obtain ⟨rfl, o, xs, n, e1, _⟩ := M
    rcases e with rfl | rfl <;> exact ⟨o, e1⟩
  | inst c fs =>
    rw [q] at M
    obtain ⟨_, _, o, m, e1, _, _, _, e5, _⟩ := M
    rcases e with rfl | rfl
    · exact ⟨o, e1⟩
    · obtain ⟨o', _, _, q, _⟩ := e5; exact ⟨o', q⟩
theorem fr_alive {B : Heap} {fr : List Env} {h : Heap} (F : h.FunFrames B fr) {b : Addr} (x : isFr fr b) : ∃ o, h.get? b = some o := let ⟨o, e, _⟩ := (F.mem x).2; ⟨o, e⟩
theorem get?_size (h : Heap) : h.get? h.objs.size = none := by
  cases e : h.get? h.objs.size with
  | none => rfl
  | some o => exact absurd (Heap.lt_size e) (Nat.lt_irrefl _)

/-- some new things of the heap are known from now on -/
theorem St.known {fr : List Env} {B : Heap} {ρ : Rho} {σ : Store} {s s' : Shared} (S : St a.cls K fr B ρ σ s.heap) (k : ∀ b o, s.heap.get? b = some o → s'.heap.get? b = some o) (keep : List Addr) (hk : ∀ b ∈ keep, s.heap.get? b = none)
    (ho : s'.os = s.os := by rfl) (hg : s'.gens = s.gens := by rfl) (xs ks : List Addr) :
    Step xs ks B ρ s (growH B s'.heap keep) ρ s' ∧ St a.cls K fr (growH B s'.heap keep) ρ σ s'.heap := by
  have S' := S.keeps k
  have off : ∀ b, (∃ o, s.heap.get? b = some o) → b ∉ keep := fun b ⟨o, e⟩ m => by rw [hk b m] at e; cases e
  refine ⟨⟨⟨growH_base S'.stays, fun b o e => ?_, List.prefix_refl _, fun _ h => .inl h, ho, hg⟩, fun b o e _ _ => k b o e, fun _ _ _ e => e.keeps k⟩, S'.grow (growH_base S'.stays) growH_stays (fun b x => ?_) fun b x => ?_⟩
  · rcases growH_of e with ⟨o', q⟩ | q
    · exact .inl (by rw [q, ← growH_base S'.stays b o' q, e])
    · exact .inr (.inl (hk b q))
  · exact growH_none (S.own b x) (off b (own_alive S.toSt0 x))
  · exact growH_none (S.frames.mem x).1 (off b (fr_alive S.frames x))

/-- a new thing of the store -/
theorem St.made {fr : List Env} {B : Heap} {ρ : Rho} {σ : Store} {s s' : Shared} (S : St a.cls K fr B ρ σ s.heap) (k : ∀ b o, s.heap.get? b = some o → s'.heap.get? b = some o) {x dx : Addr} {o : MO} (hx : s.heap.get? x = none) (hd : s.heap.get? dx = none)
    (M : MOk a.cls B (ρ ++ [(x, dx)]) s'.heap o (x, dx)) (ho : s'.os = s.os := by rfl) (hg : s'.gens = s.gens := by rfl) (xs ks : List Addr) :
    Step xs ks B ρ s B (ρ ++ [(x, dx)]) s' ∧ St a.cls K fr B (ρ ++ [(x, dx)]) (σ ++ [o]) s'.heap := by
  have S' := S.keeps k
  have own : ∀ b, isOwn (ρ ++ [(x, dx)]) b → isOwn ρ b ∨ b = x ∨ b = dx := fun b ⟨p, hp, e⟩ => by
    rcases List.mem_append.mp hp with q | q
    · exact .inl ⟨p, q, e⟩
    · obtain rfl := List.mem_singleton.mp q
      exact .inr e
  have new : ∀ b, b = x ∨ b = dx → s.heap.get? b = none := fun b e => by rcases e with rfl | rfl <;> assumption
  have nb : ∀ b, s.heap.get? b = none → B.get? b = none := fun b e => by
    cases q : B.get? b with
    | none => rfl
    | some o' => rw [S.stays b o' q] at e; cases e
  refine ⟨⟨⟨fun _ _ e => e, fun _ _ e => .inl e, List.prefix_append _ _, fun b h => (own b h).imp id fun q => .inl (new b q), ho, hg⟩, fun b o e _ _ => k b o e, fun _ _ _ e => e.keeps k⟩, ⟨⟨S.kin, S'.stays, by simp [S.len], fun i o' p e1 e2 => ?_, fun b h => ?_, ?_⟩, fun b h => ?_, S'.frames⟩⟩
  · rcases Nat.lt_or_ge i ρ.length with hi | hi
    · rw [List.getElem?_append_left hi] at e2
      rw [List.getElem?_append_left (by rw [← S.len]; exact hi)] at e1
      exact (S'.mo i o' p e1 e2).mono (fun _ _ e => e) (List.prefix_append _ _) (fun y e => e) fun _ _ n => n
    · rw [List.getElem?_append_right hi] at e2
      rw [List.getElem?_append_right (by rw [← S.len]; exact hi), ← S.len] at e1
      have : i - ρ.length = 0 := by
        rcases Nat.eq_zero_or_pos (i - ρ.length) with q | q
        · exact q
        · rw [List.getElem?_eq_none (by rw [List.length_singleton]; exact q)] at e2; cases e2
      rw [this] at e1 e2
      cases e1; cases e2
      exact M
  · rcases own b h with q | q
    · exact S.own b q
    · exact nb b (new b q)
  · refine List.pairwise_append.mpr ⟨S.dis, List.pairwise_singleton _ _, fun p hp q hq => ?_⟩
    obtain rfl := List.mem_singleton.mp hq
    have ne : ∀ b, isOwn ρ b → ∀ c, s.heap.get? c = none → b ≠ c := fun b h c n e => by
      obtain ⟨o, z⟩ := own_alive S.toSt0 h
      rw [e, n] at z; cases z
    exact ⟨ne _ ⟨p, hp, .inl rfl⟩ _ hx, ne _ ⟨p, hp, .inl rfl⟩ _ hd, ne _ ⟨p, hp, .inr rfl⟩ _ hx, ne _ ⟨p, hp, .inr rfl⟩ _ hd⟩
  · rcases own b h with q | q
    · exact S.off b q
    · intro f
      obtain ⟨o, z⟩ := fr_alive S.frames f
      rw [new b q] at z; cases z

theorem push_keeps (h : Heap) (o : Obj) : ∀ b o', h.get? b = some o' → (h.push o).get? b = some o' := fun b o' e => Heap.get?_push_of_some _ e

theorem g_tup {σ σ₁ : Store} {l : Loc} {xs : List E} {ps : List PV} (hx : Good P w K a d (.es xs l σ) (.vs ps σ₁)) (hl : ps.length ≤ 64) : Good P w K a d (.e (.tup xs) l σ) (.v (.tup ps) σ₁) := by
  intro c e A B ρ s ao hi ar st
  obtain ⟨es, k, pos, hi⟩ := isE_tup hi
  refine ⟨fun Q E h => Tuple_ (hx.2 c es pos A B ρ s ao hi ar st _ _ fun vs s₁ ⟨B₁, ρ₁, t₁, S₁, r₁⟩ => ?_), fun b hb => by cases hb⟩
  refine wpAny_newTuple ?_ (by rw [sizeLine_eq, ← r₁.1]; lia)
  obtain ⟨t₂, S₂⟩ := S₁.known (s' := { s₁ with heap := s₁.heap.push { cls := .type "tuple", data := .seq vs.toArray } }) (push_keeps _ _) [s₁.heap.objs.size] (fun b m => by rw [List.mem_singleton.mp m]; exact get?_size _) rfl rfl (frs c.fr) (frs c.fr)
  refine h _ _ ⟨_, _, t₁.trans t₂, S₂, .tup (growH_in (Heap.get?_push_size _ rfl) (.inr (.head _))) rfl rfl (by simpa using r₁.1) fun i p v x y => (r₁.2 i p v x (by simpa using y)).mono t₂.base t₂.pre⟩

theorem g_lst {σ σ₁ : Store} {l : Loc} {xs : List E} {ps : List PV} (hx : Good P w K a d (.es xs l σ) (.vs ps σ₁)) (hl : ps.length ≤ 64) : Good P w K a d (.e (.lst xs) l σ) (.v (.ref σ₁.length) (σ₁ ++ [.lst ps])) := by
  intro c e A B ρ s ao hi ar st
  obtain ⟨es, pos, hi⟩ := isE_lst hi
  refine ⟨fun Q E h => List_ (hx.2 c es pos A B ρ s ao hi ar st _ _ fun vs s₁ ⟨B₁, ρ₁, t₁, S₁, r₁⟩ => ?_), fun b hb => by cases hb⟩
  refine wpAny_newList ?_ (by rw [sizeLine_eq, ← r₁.1]; lia)
  obtain ⟨t₂, S₂⟩ := S₁.made (s' := { s₁ with heap := s₁.heap.push { cls := .type "list", data := .seq vs.toArray } }) (push_keeps _ _) (x := s₁.heap.objs.size) (dx := s₁.heap.objs.size) (o := .lst ps) (get?_size _) (get?_size _)
    ⟨rfl, _, _, _, Heap.get?_push_size _ rfl, rfl, ⟨rfl, rfl⟩, rfl, by simpa using r₁.1, fun i p v x y => (r₁.2 i p v x (by simpa using y)).mono (fun _ _ e => e) (List.prefix_append _ _)⟩ rfl rfl (frs c.fr) (frs c.fr)
  exact h _ _ ⟨_, _, t₁.trans t₂, S₂, .ref (d := s₁.heap.objs.size) (by rw [List.getElem?_append_right (by rw [S₁.len]; exact Nat.le_refl _), S₁.len, Nat.sub_self]; rfl)⟩
end
end Mine
end
section
open PySem PySem.W PyProof.Rows PySem.Calls
namespace Mine
section
variable {P : Program} {w : World} {K : Frag} {a : Adr} {d : Nat}

theorem handed {B : Heap} {ρ : Rho} {p : PV} {v : V} (h : RepV a.cls B ρ p v) : handedIn v = true := by cases h <;> rfl
theorem lookIn_ns {h : Heap} {dx : Addr} {m : Str → Option V} (n : h.Ns dx m) (x : Str) : ∃ od, h.get? dx = some od ∧ lookIn x od = some (m x) := by
  obtain ⟨od, es, ep, e1, e2, e3, e4⟩ := n
  refine ⟨od, e1, ?_⟩
  unfold lookIn
  rw [e2, ← e4 x]
  dsimp only
  unfold nsFind findBy
  rw [← Array.find?_toList]
  cases q : List.find? (fun e => e.key.isStr x) es.toList with
  | some e => rfl
  | none =>
    have : es.toList.any (·.refKey) = false := by
      rw [List.any_eq_false]
      intro e he
      obtain ⟨y, t, z⟩ := e3 e (Array.mem_toList_iff.mp he)
      simp [DictEntry.refKey, z]
    simp [this]
/-- an own object, frozen or of the store -/
structure InH (a : Adr) (h : Heap) (x : Addr) (c : Nat) (m : Str → Option V) : Prop where
  c9 : c < 9
  at_ : ∃ ox dx, h.get? x = some ox ∧ ox.cls = .ref (a.cls c) ∧ ox.dict = some dx ∧ ox.data = .plain ∧ h.Ns dx m
theorem InH.inst {h : Heap} {x : Addr} {c : Nat} {m : Str → Option V} (i : InH a h x c m) (n : Str) : ∃ ox od, InstAt h x ox (a.cls c) (some od) ∧ lookIn n od = some (m n) := by
  obtain ⟨ox, dx, e1, e2, e3, e4, e5⟩ := i.at_
  obtain ⟨od, q1, q2⟩ := lookIn_ns e5 n
  exact ⟨ox, od, ⟨e1, e2, by unfold notCls; rw [e4], by rw [e3]; exact q1⟩, q2⟩
theorem inH_of {B h : Heap} {ρ : Rho} {c : Nat} {fs : List (Nat × PV)} {v : V} (hB : B.StaysIn h) (r : RepV a.cls B ρ (.inst c fs) v) :
    ∃ x m, v = .ref x ∧ InH a h x c m ∧ (∀ f p, fs.lookup f = some p → f ∈ fieldsOf c ∧ ∃ v, m (nm f) = some v ∧ RepV a.cls B ρ p v) ∧ ∀ y, (∀ f p, fs.lookup f = some p → nm f ≠ y) → m y = none := by
  cases r with
  | inst g1 g2 h1 h2 h3 h4 h5 h6 h7 h8 => exact ⟨_, _, rfl, ⟨g1, _, _, hB _ _ h1, h2, h3, h4, h5.keeps hB⟩, fun f p e => ⟨g2 f p e, _, h6 f p e, h8 f p e⟩, h7⟩
theorem inH_ref {B h : Heap} {ρ : Rho} {σ : Store} {i c : Nat} {fs : List (Nat × PV)} {v : V} (S : St0 a.cls K B ρ σ h) (e : σ[i]? = some (.inst c fs)) (r : RepV a.cls B ρ (.ref i) v) :
    ∃ x dx m, v = .ref x ∧ ρ[i]? = some (x, dx) ∧ InH a h x c m ∧ (∀ f p, fs.lookup f = some p → f ∈ fieldsOf c ∧ ∃ v, m (nm f) = some v ∧ RepV a.cls B ρ p v) ∧ ∀ y, (∀ f p, fs.lookup f = some p → nm f ≠ y) → m y = none := by
  cases r with | ref hr =>
  obtain ⟨g1, g2, o, m, e1, e2, e3, e4, e5, e6, e7⟩ := S.mo i _ _ e hr
  exact ⟨_, _, m, rfl, hr, ⟨g1, o, _, e1, e2, e3, e4, e5.ns⟩, fun f p q => ⟨g2 f p q, e6 f p q⟩, e7⟩
theorem list_ref {B h : Heap} {ρ : Rho} {σ : Store} {i : Nat} {l : List PV} {v : V} (S : St0 a.cls K B ρ σ h) (e : σ[i]? = some (.lst l)) (r : RepV a.cls B ρ (.ref i) v) :
    ∃ x xs, v = .ref x ∧ ρ[i]? = some (x, x) ∧ h.IsList x xs ∧ l.length = xs.size ∧ ∀ (i : Nat) p v, l[i]? = some p → xs[i]? = some v → RepV a.cls B ρ p v := by
  cases r with | ref hr =>
  obtain ⟨rfl, o, xs, n, e1, e2, ed, e3, e4, e5⟩ := S.mo i _ _ e hr
  exact ⟨_, xs, rfl, hr, ⟨o, e1, e2, n, e3⟩, e4, e5⟩
set_option tactic.hygienic true in
theorem lst_at {B h : Heap} {ρ : Rho} {σ : Store} {p : PV} {l : List PV} {v : V} (S : St0 a.cls K B ρ σ h) (e : lstAt σ p = some l) (r : RepV a.cls B ρ p v) :
    ∃ x xs, v = .ref x ∧ h.IsList x xs ∧ l.length = xs.size ∧ ∀ (i : Nat) p v, l[i]? = some p → xs[i]? = some v → RepV a.cls B ρ p v := by
  cases p <;> try (simp [lstAt] at e; done)
  · cases e
    cases r with | lis h1 h2 h3 h4 h5 =>
    exact ⟨_, _, rfl, ⟨_, S.stays _ _ h1, h2, _, h3⟩, h4, h5⟩
  · rename_i i
    simp only [lstAt] at e
    split at e
    · rename_i l' q
      cases e
      obtain ⟨x, xs, e1, e2, e3, e4, e5⟩ := list_ref S q r
      exact ⟨x, xs, e1, e3, e4, e5⟩
    · cases e
theorem list_dict {B h : Heap} {ρ : Rho} {σ : Store} {i : Nat} {l : List PV} {x y : Addr} (S : St0 a.cls K B ρ σ h) (e : σ[i]? = some (.lst l)) (r : ρ[i]? = some (x, y)) : ∃ o, h.get? x = some o ∧ o.dict = .none := by
  obtain ⟨rfl, o, xs, n, e1, e2, ed, e3, e4, e5⟩ := S.mo i _ _ e r
  exact ⟨o, e1, ed.1⟩

theorem getAttr_ok {A : Around} {s : Shared} {x : Addr} {c f : Nat} {m : Str → Option V} {v : V} {B : Heap} {ρ : Rho} {p : PV} {ex : Bool} {Q : V → Shared → Prop} {E : V → Shared → Prop} (fa : Fa K a) (X : K.In s.heap) (i : InH a s.heap x c m) (hf : f ∈ fieldsOf c) (hm : m (nm f) = some v) (r : RepV a.cls B ρ p v)
    (h : Q v { s with toks := s.toks + 1 }) : wpAny (model P w) A (getAttr (.ref x) (nm f) ex) Q E s := by
  obtain ⟨ox, od, I, l⟩ := i.inst (nm f)
  obtain ⟨⟨y, h1, h2⟩, -⟩ := fa.attr c f i.c9 hf
  exact get_value X I (plainGet_of (fa.ga c i.c9)).1 (findObj_own (fa.hasDict c i.c9) h1 h2 (by rw [l, hm])) (handed r) h

theorem base_eq {o : XE} {n : Str} {env : Env} {t : Sem V} (hs : notSuper o = true) : attributeBase o n env t = t := by
  cases o with
  | Call f as kw pos =>
    cases f with
    | Name id p => cases as with
      | cons _ _ => rfl
      | nil => cases kw with
        | cons _ _ => rfl
        | nil =>
          have hs : (id != ("super" : Str)) = true := hs
          show (if _ then _ else _) = _
          rw [hs]; rfl
    | _ => rfl
  | _ => rfl
theorem wpAny_base {A : Around} {s : Shared} {o : XE} {n : Str} {env : Env} {t : Sem V} {Q : V → Shared → Prop} {E : V → Shared → Prop} (hs : notSuper o = true) (h : wpAny (model P w) A t Q E s) : wpAny (model P w) A (attributeBase o n env t) Q E s := by
  rw [base_eq hs]; exact h
theorem wpAny_Attr {A : Around} {s : Shared} {o : XE} {n : Str} {pos : Pos} {env : Env} {Q : V → Shared → Prop} {E : V → Shared → Prop} (hs : notSuper o = true)
    (h : wpAny (model P w) A (eval o env) (fun v s₁ => wpAny (model P w) A (getAttr v n true) Q E s₁) E s) : wpAny (model P w) A (eval (.Attribute o n pos) env) Q E s := by
  rw [arm_eval_Attribute]
  refine wpAny_bind (wpAny_base hs (wpAny_mono h (fun v s₁ z => ?_) fun _ _ z => z))
  exact wpAny_bind (wpAny_standAt (wpAny_bind (wpAny_holding (wpAny_mono z (fun r s₂ q => wpAny_bind (wpAny_letTemporaryGo (wpAny_pure q))) fun _ _ z => z))))

set_option tactic.hygienic true in
theorem g_attr {σ σ₁ : Store} {l : Loc} {x : E} {f : Nat} {p q : PV} (hx : Good P w K a d (.e x l σ) (.v p σ₁)) (hq : attrV σ₁ p f = some q) : Good P w K a d (.e (.attr x f) l σ) (.v q σ₁) := by
  intro c e A B ρ s ao hi ar st
  obtain ⟨o, pos, i2, i3⟩ := isE_attr hi
  have ev : ∀ Q E, (∀ v s', OkE K a c.fr B ρ s q σ₁ v s' → Q v s') → wpAny (model P w) A (eval (.Attribute o (nm f) pos) c.env) Q E s := fun Q E h => by
    refine wpAny_Attr i3 ((hx c o A B ρ s ao i2 ar st).1 _ _ fun v s₁ ⟨B₁, ρ₁, t₁, S₁, r₁⟩ => ?_)
    have X := S₁.kin.keeps S₁.stays
    cases p <;> first | (simp [attrV] at hq; done) | skip
    · rename_i k fs
      obtain ⟨y, m, rfl, i, h1, h2⟩ := inH_of S₁.stays r₁
      obtain ⟨h3, u, h4, h5⟩ := h1 f q hq
      exact getAttr_ok ao.fa X i h3 h4 h5 (h _ _ (okE_same t₁ S₁ h5 .t))
    · rename_i j
      simp only [attrV] at hq
      split at hq
      · rename_i k fs e
        obtain ⟨y, dx, m, rfl, hr, i, h1, h2⟩ := inH_ref S₁.toSt0 e r₁
        obtain ⟨h3, u, h4, h5⟩ := h1 f q hq
        exact getAttr_ok ao.fa X i h3 h4 h5 (h _ _ (okE_same t₁ S₁ h5 .t))
      · cases hq
  exact ⟨ev, test_of rfl ev⟩
end
end Mine
end
section
open PySem PySem.W PyProof.Rows PySem.Calls PySem.Builtin.Str
namespace Mine
section
variable {P : Program} {w : World} {K : Frag} {a : Adr} {d : Nat}

theorem strIdx_cl (i j : Int) (n : Nat) : strSliceIndices (some i) (some j) 1 n = strSliceIndices (some (cl i n : Int)) (some (cl j n : Int)) 1 n := by
  have e : ∀ k : Int, max (0 : Int) (min (if k < 0 then k + n else k) (n : Int)) = max (0 : Int) (min (if ((cl k n : Nat) : Int) < 0 then ((cl k n : Nat) : Int) + n else ((cl k n : Nat) : Int)) (n : Int)) := fun k => by
    unfold cl
    split <;> split <;> lia
  simp only [strSliceIndices, show ((1 : Int) > 0) = True from by simp, if_true]
  rw [e i, e j]
theorem cl_le' (i : Int) (n : Nat) : cl i n ≤ n := by unfold cl; split <;> lia
theorem sliced_cut (x : Str) (i j : Int) : (strSliceIndices (some i) (some j) 1 x.length).filterMap (x.cps[·]?) = cut x.cps.toList (cl i x.length) (cl j x.length) := by
  rw [strIdx_cl]
  have hb := cl_le' j x.length
  generalize cl i x.length = p at *
  generalize cl j x.length = q at *
  unfold cut
  rcases Nat.le_total p q with h | h
  · rw [StrLaws.sliced_plain x h hb]
    rw [List.drop_take]
  · have : strSliceIndices (some (p : Int)) (some (q : Int)) 1 x.length = [] := by
      have h1 : ¬ ((p : Int) < 0) := by lia
      have h2 : ¬ ((q : Int) < 0) := by lia
      simp only [strSliceIndices, sliceRange, h1, h2, if_false, show ((1 : Int) > 0) = True from by simp, if_true]
      rw [if_neg (by lia)]; rfl
    rw [this, List.drop_eq_nil_of_le (by rw [List.length_take]; lia)]; rfl
set_option tactic.hygienic true in
theorem post_slice {s : Shared} {x : List Nat} {t : Tok} {l u : Option (Int × Tok)} {i j : Int} {Q : V → Shared → Prop} (hl : x.length ≤ 65536) (e : strSliceIndices (l.map (·.1)) (u.map (·.1)) 1 x.length = strSliceIndices (some i) (some j) 1 x.length)
    (h : ∀ tk n, Q (.str (st (cut x (cl i x.length) (cl j x.length))) tk) { s with toks := n }) : (sliceMade (st x) t l u none).post Q s := by
  have hx : (st x).length = x.length := st_length x
  have ex := sliced_cut (st x) i j
  rw [hx] at ex
  have hc : (st x).cps.toList = x := by simp [st]
  rw [hc] at ex
  unfold sliceMade slicePicked
  simp only [Option.map_none, Option.getD_none, hx, e]
  have len : (cut x (cl i x.length) (cl j x.length)).length ≤ x.length := by unfold cut; simp; lia
  split
  · rename_i q
    simp only [beq_self_eq_true, Bool.true_and, beq_iff_eq] at q
    have hb := cl_le' j x.length
    have := h t s.toks
    have full : cut x (cl i x.length) (cl j x.length) = x := by
      have hl2 : (cut x (cl i x.length) (cl j x.length)).length = x.length := by
        rw [← ex]
        rw [strIdx_cl] at q ⊢
        have hb := cl_le' j x.length
        generalize cl i x.length = p at *
        generalize cl j x.length = r at *
        rcases Nat.le_total p r with z | z
        · rw [StrLaws.strSliceIndices_plain z hb] at q ⊢
          rw [show ((st x).cps[·]?) = fun k => (x[k]? : Option Nat) from by funext k; simp [st]]
          rw [StrLaws.picks x (r - p) p (by lia)]
          simp at q ⊢; lia
        · have : strSliceIndices (some (p : Int)) (some (r : Int)) 1 x.length = [] := by
            have h1 : ¬ ((p : Int) < 0) := by lia
            have h2 : ¬ ((r : Int) < 0) := by lia
            simp only [strSliceIndices, sliceRange, h1, h2, if_false, show ((1 : Int) > 0) = True from by simp, if_true]
            rw [if_neg (by lia)]; rfl
          rw [this] at q ⊢; simp at q ⊢; lia
      unfold cut at hl2 ⊢
      simp at hl2
      have hci := cl_le' i x.length
      rw [List.take_of_length_le (by lia), show cl i x.length = 0 by lia]; rfl
    rw [full] at this
    exact this
  · refine ⟨?_, ?_⟩
    · show Str.length _ ≤ _
      rw [show ((⟨((strSliceIndices (some i) (some j) 1 x.length).filterMap ((st x).cps[·]?)).toArray⟩ : Str)) = st (cut x (cl i x.length) (cl j x.length)) from by rw [ex]; rfl]
      rw [st_length, sizeLine_eq]; lia
    · rw [show ((⟨((strSliceIndices (some i) (some j) 1 x.length).filterMap ((st x).cps[·]?)).toArray⟩ : Str)) = st (cut x (cl i x.length) (cl j x.length)) from by rw [ex]; rfl]
      exact h _ _

theorem subd {e : XE} {o i : V} {c : Sc} {y : E} (h : isE c y e = true) : subscripted e false o i = operate [o, i] (getItem o i) := by
  cases e <;> first | rfl | skip
  cases y <;> exact absurd h Bool.false_ne_true

theorem seqIdx {k : Int} {n : Nat} (h0 : 0 ≤ k) (hk : k.toNat < n) : seqIndex? k n = some k.toNat := by
  unfold seqIndex?
  have h1 : ¬ (k < 0) := by lia
  simp only [h1, if_false]
  rw [if_pos (by simp; lia)]
theorem charAt_nn {l : List Nat} {k : Int} {x : Nat} (h0 : 0 ≤ k) (e : l[k.toNat]? = some x) : Txt.item (st l) k = st [x] := by
  have hk : k.toNat < l.length := (List.getElem?_eq_some_iff.mp e).1
  show (⟨#[(Txt.charAt (st l) k).getD 0]⟩ : Str) = ⟨#[x]⟩
  have : Txt.charAt (st l) k = some x := by
    unfold Txt.charAt
    rw [st_length, seqIdx h0 hk]
    show (st l).cps[k.toNat]? = some x
    simpa [st] using e
  rw [this]; rfl

theorem ltg_str {value : XE} {x : Str} {t : Tok} (r : V) : letTemporaryGo value (.str x t) r = pure () := by cases value <;> rfl

set_option tactic.hygienic true in
theorem sub_ok {A : Around} {B : Heap} {ρ : Rho} {σ : Store} {s : Shared} {p q r : PV} {x y : V} {value slice : XE} {Q : V → Shared → Prop} {E : V → Shared → Prop} (S : St0 a.cls K B ρ σ s.heap) (hp : RepV a.cls B ρ p x) (hq : RepV a.cls B ρ q y) (hr : subV σ p q = some r)
    (hs : ∀ o i, subscripted slice false o i = operate [o, i] (getItem o i)) (h : ∀ v n, RepV a.cls B ρ r v → Q v { s with toks := n }) : wpAny (model P w) A (subscriptTail value slice x y) Q E s := by
  unfold subV at hr
  split at hr
  · rename_i l k
    obtain ⟨t, rfl⟩ := hp.str'; obtain ⟨u, rfl⟩ := hq.int'
    split at hr
    · rename_i h0
      obtain ⟨n, e1, rfl⟩ := Option.map_eq_some_iff.mp hr
      have hk : k.toNat < l.length := (List.getElem?_eq_some_iff.mp e1).1
      refine item_str (by unfold fitsSsize; simp; lia) (by rw [st_length]; lia) (by rw [st_length]; lia) (fun _ => ?_) (hs _ _) (ltg_str)
      rw [charAt_nn h0.1 e1]
      exact h _ _ (.str ..)
    · cases hr
  · rename_i l k
    obtain ⟨u, rfl⟩ := hq.int'
    split at hr
    · rename_i h0
      cases hp with | tup h1 h2 h3 h4 h5 =>
      rename_i xs b o n
      have hk : k.toNat < l.length := (List.getElem?_eq_some_iff.mp hr).1
      have hk' : k.toNat < xs.toList.length := by simpa [← h4] using hk
      refine item_tupleT (l := xs.toList) (j := k.toNat) (x := xs.toList[k.toNat]) ⟨o, S.stays _ _ h1, h2, n, h3⟩ (by lia) (by lia) (seqIdx h0.1 hk') (List.getElem?_eq_getElem hk') ?_ (hs _ _)
      exact h _ s.toks (h5 _ _ _ hr (by rw [← Array.getElem?_toList]; exact List.getElem?_eq_getElem hk'))
    · cases hr
  · rename_i k _ _
    obtain ⟨u, rfl⟩ := hq.int'
    split at hr
    · rename_i l e
      split at hr
      · rename_i h0
        obtain ⟨b, xs, rfl, hl, e1, e2⟩ := lst_at S e hp
        have hk : k.toNat < l.length := (List.getElem?_eq_some_iff.mp hr).1
        have hk' : k.toNat < xs.size := by lia
        refine tail_any hl.typeIs slot_list_getitem.lookup (wpAny_getItem_list (x := xs[k.toNat]) hl h0.1 (by lia) (Array.getElem?_eq_getElem hk') ?_) (hs _ _)
        exact h _ s.toks (e2 _ _ _ hr (Array.getElem?_eq_getElem hk'))
      · cases hr
    · cases hr
  · cases hr

theorem g_sub {σ σ₁ σ₂ : Store} {l : Loc} {x y : E} {p q r : PV} (hx : Good P w K a d (.e x l σ) (.v p σ₁)) (hy : Good P w K a d (.e y l σ₁) (.v q σ₂)) (hr : subV σ₂ p q = some r) : Good P w K a d (.e (.sub x y) l σ) (.v r σ₂) := by
  intro c e A B ρ s ao hi ar st
  obtain ⟨e1, e2, pos, i1, i2⟩ := isE_sub hi
  have ev : ∀ Q E, (∀ v s', OkE K a c.fr B ρ s r σ₂ v s' → Q v s') → wpAny (model P w) A (eval (.Subscript e1 e2 pos) c.env) Q E s := fun Q E h => by
    refine Subscript_ ((hx c e1 A B ρ s ao i1 ar st).1 _ _ fun v s₁ ⟨B₁, ρ₁, t₁, S₁, r₁⟩ => ?_)
    refine (hy c e2 A B₁ ρ₁ s₁ ao i2 ar (st.step t₁ S₁)).1 _ _ fun v₂ s₂ ⟨B₂, ρ₂, t₂, S₂, r₂⟩ => ?_
    exact sub_ok S₂.toSt0 (r₁.mono t₂.base t₂.pre) r₂ hr (fun o i => subd i2) fun v n rv => h _ _ (okE_same (t₁.trans t₂) S₂ rv .t)
  exact ⟨ev, test_of rfl ev⟩

/-- behind a slice's making -/
theorem slice_eval {c : Act} {A : Around} {s : Shared} {e1 : XE} {lo up : Option XE} {p pos : Pos} {Q : V → Shared → Prop} {E : V → Shared → Prop}
    (h : wpAny (model P w) A (eval e1 c.env) (fun v s₁ => wpAny (model P w) A (evalPart lo c.env) (fun vl s₂ => wpAny (model P w) A (evalPart up c.env) (fun vu s₃ =>
      ∃ T id, ({ s₃ with heap := s₃.heap.push { cls := .type "slice", data := .fields #[vl, vu, .none] } } : Shared).TypeIs v T ∧ typeLookup (.type T) "__getitem__" = pure (some (.builtin id)) ∧
        wpAny (model P w) A (getItem v (.ref s₃.heap.objs.size)) Q E { s₃ with heap := s₃.heap.push { cls := .type "slice", data := .fields #[vl, vu, .none] } }) E s₂) E s₁) E s) :
    wpAny (model P w) A (eval (.Subscript e1 (.Slice lo up none p) pos) c.env) Q E s := by
  refine Subscript_ (wpAny_mono h (fun v s₁ h₁ => wpAny_Slice (wpAny_mono h₁ (fun vl s₂ h₂ => wpAny_mono h₂ (fun vu s₃ h₃ => ?_) fun _ _ z => z) fun _ _ z => z)) fun _ _ z => z)
  rw [evalPart_none]
  obtain ⟨T, id, h1, h2, h3⟩ := h₃
  exact wpAny_pure (tail_any h1 h2 h3 rfl)

theorem g_sl2 {σ σ₁ σ₂ σ₃ : Store} {l : Loc} {x y z : E} {t : List Nat} {i j : Int} (hx : Good P w K a d (.e x l σ) (.v (.str t) σ₁)) (hy : Good P w K a d (.e y l σ₁) (.v (.int i) σ₂)) (hz : Good P w K a d (.e z l σ₂) (.v (.int j) σ₃)) (hl : t.length ≤ 65536) :
    Good P w K a d (.e (.sl2 x y z) l σ) (.v (.str (cut t (cl i t.length) (cl j t.length))) σ₃) := by
  intro c e A B ρ s ao hi ar st
  obtain ⟨e1, e2, e3, p, pos, i1, i2, i3⟩ := isE_sl2 hi
  have ev : ∀ Q E, (∀ v s', OkE K a c.fr B ρ s (.str (cut t (cl i t.length) (cl j t.length))) σ₃ v s' → Q v s') → wpAny (model P w) A (eval (.Subscript e1 (.Slice (some e2) (some e3) none p) pos) c.env) Q E s := fun Q E h => by
    refine slice_eval ((hx c e1 A B ρ s ao i1 ar st).1 _ _ fun v s₁ ⟨B₁, ρ₁, t₁, S₁, r₁⟩ => ?_)
    refine (hy c e2 A B₁ ρ₁ s₁ ao i2 ar (st.step t₁ S₁)).1 _ _ fun v₂ s₂ ⟨B₂, ρ₂, t₂, S₂, r₂⟩ => ?_
    refine (hz c e3 A B₂ ρ₂ s₂ ao i3 ar (st.step (t₁.trans t₂) S₂)).1 _ _ fun v₃ s₃ ⟨B₃, ρ₃, t₃, S₃, r₃⟩ => ?_
    obtain ⟨tk, rfl⟩ := r₁.str'; obtain ⟨u, rfl⟩ := r₂.int'; obtain ⟨u', rfl⟩ := r₃.int'
    refine ⟨"str", _, typeIs_str _ _ _, F.slot_str_getitem.lookup, wpAny_getItem_str_slice (l := some (i, u)) (u := some (j, u')) (st := none) ⟨_, Heap.get?_push_size _ rfl, rfl, rfl⟩ rfl (post_slice hl rfl fun tk n => ?_)⟩
    exact h _ _ ⟨B₃, ρ₃, ((t₁.trans t₂).trans t₃).trans (.of_keeps (push_keeps _ _)), S₃.keeps (push_keeps _ _), .str ..⟩
  exact ⟨ev, test_of rfl ev⟩
theorem g_slFrom {σ σ₁ σ₂ : Store} {l : Loc} {x y : E} {t : List Nat} {i : Int} (hx : Good P w K a d (.e x l σ) (.v (.str t) σ₁)) (hy : Good P w K a d (.e y l σ₁) (.v (.int i) σ₂)) (hl : t.length ≤ 65536) :
    Good P w K a d (.e (.slFrom x y) l σ) (.v (.str (t.drop (cl i t.length))) σ₂) := by
  intro c e A B ρ s ao hi ar st
  obtain ⟨e1, e2, p, pos, i1, i2⟩ := isE_slFrom hi
  have full : cut t (cl i t.length) (cl (t.length : Int) t.length) = t.drop (cl i t.length) := by
    unfold cut
    rw [List.take_of_length_le (by unfold cl; split <;> lia)]
  have ev : ∀ Q E, (∀ v s', OkE K a c.fr B ρ s (.str (t.drop (cl i t.length))) σ₂ v s' → Q v s') → wpAny (model P w) A (eval (.Subscript e1 (.Slice (some e2) none none p) pos) c.env) Q E s := fun Q E h => by
    refine slice_eval ((hx c e1 A B ρ s ao i1 ar st).1 _ _ fun v s₁ ⟨B₁, ρ₁, t₁, S₁, r₁⟩ => ?_)
    refine (hy c e2 A B₁ ρ₁ s₁ ao i2 ar (st.step t₁ S₁)).1 _ _ fun v₂ s₂ ⟨B₂, ρ₂, t₂, S₂, r₂⟩ => ?_
    rw [evalPart_none]
    refine wpAny_pure ?_
    obtain ⟨tk, rfl⟩ := r₁.str'; obtain ⟨u, rfl⟩ := r₂.int'
    refine ⟨"str", _, typeIs_str _ _ _, F.slot_str_getitem.lookup, wpAny_getItem_str_slice (l := some (i, u)) (u := none) (st := none) ⟨_, Heap.get?_push_size _ rfl, rfl, rfl⟩ rfl (post_slice (i := i) (j := (t.length : Int)) hl (StrLaws.sliceIdx_none_hi _ _) fun tk n => ?_)⟩
    rw [full]
    exact h _ _ ⟨B₂, ρ₂, (t₁.trans t₂).trans (.of_keeps (push_keeps _ _)), S₂.keeps (push_keeps _ _), .str ..⟩
  exact ⟨ev, test_of rfl ev⟩
theorem g_slTo {σ σ₁ σ₂ : Store} {l : Loc} {x y : E} {t : List Nat} {i : Int} (hx : Good P w K a d (.e x l σ) (.v (.str t) σ₁)) (hy : Good P w K a d (.e y l σ₁) (.v (.int i) σ₂)) (hl : t.length ≤ 65536) :
    Good P w K a d (.e (.slTo x y) l σ) (.v (.str (t.take (cl i t.length))) σ₂) := by
  intro c e A B ρ s ao hi ar st
  obtain ⟨e1, e2, p, pos, i1, i2⟩ := isE_slTo hi
  have full : cut t (cl 0 t.length) (cl i t.length) = t.take (cl i t.length) := by
    unfold cut
    rw [show cl 0 t.length = 0 from by unfold cl; simp]; rfl
  have ev : ∀ Q E, (∀ v s', OkE K a c.fr B ρ s (.str (t.take (cl i t.length))) σ₂ v s' → Q v s') → wpAny (model P w) A (eval (.Subscript e1 (.Slice none (some e2) none p) pos) c.env) Q E s := fun Q E h => by
    refine slice_eval ((hx c e1 A B ρ s ao i1 ar st).1 _ _ fun v s₁ ⟨B₁, ρ₁, t₁, S₁, r₁⟩ => ?_)
    rw [evalPart_none]
    refine wpAny_pure ?_
    refine (hy c e2 A B₁ ρ₁ s₁ ao i2 ar (st.step t₁ S₁)).1 _ _ fun v₂ s₂ ⟨B₂, ρ₂, t₂, S₂, r₂⟩ => ?_
    obtain ⟨tk, rfl⟩ := r₁.str'; obtain ⟨u, rfl⟩ := r₂.int'
    refine ⟨"str", _, typeIs_str _ _ _, F.slot_str_getitem.lookup, wpAny_getItem_str_slice (l := none) (u := some (i, u)) (st := none) ⟨_, Heap.get?_push_size _ rfl, rfl, rfl⟩ rfl (post_slice (i := 0) (j := i) hl (StrLaws.sliceIdx_none_lo _ _) fun tk n => ?_)⟩
    rw [full]
    exact h _ _ ⟨B₂, ρ₂, (t₁.trans t₂).trans (.of_keeps (push_keeps _ _)), S₂.keeps (push_keeps _ _), .str ..⟩
  exact ⟨ev, test_of rfl ev⟩
theorem pick_upto (xs : Array V) {i : Int} (h0 : 0 ≤ i) : slicePick xs none (some i) none = (xs.toList.take i.toNat).toArray := by
  unfold slicePick sliceBounds
  have h1 : ¬ (i < 0) := by lia
  simp only [Option.getD_none, show ((1 : Int) > 0) = True from by simp, if_true, h1, if_false]
  obtain ⟨b, hb⟩ : ∃ b : Nat, max (0 : Int) (min i (xs.size : Int)) = (b : Int) := ⟨min i.toNat xs.size, by lia⟩
  have hb' : b = min i.toNat xs.size := by lia
  rw [hb]
  unfold sliceRange
  simp only [show ((1 : Int) > 0) = True from by simp, if_true]
  have e : ((if (0 : Int) < b then ((b : Int) - 0 + 1 - 1) / 1 else 0)).toNat = b := by split <;> lia
  rw [e]
  have := StrLaws.picks xs.toList b 0 (by rw [Array.length_toList]; lia)
  rw [show ((List.range b).map fun (k : Nat) => ((0 : Int) + 1 * (k : Int)).toNat) = (List.range b).map fun k => 0 + k from List.map_congr_left fun k _ => by lia]
  rw [show (xs[·]?) = fun k => (xs.toList[k]? : Option V) from by funext k; simp]
  rw [this, List.drop_zero]
  congr 1
  rw [hb']
  rcases Nat.le_total i.toNat xs.size with q | q
  · rw [Nat.min_eq_left q]
  · rw [Nat.min_eq_right q, List.take_of_length_le (by simp), List.take_of_length_le (by simpa using q)]
set_option tactic.hygienic true in
theorem g_slTo' {σ σ₁ σ₂ : Store} {l : Loc} {x y : E} {j : PV} {t : List PV} {i : Int} (hx : Good P w K a d (.e x l σ) (.v j σ₁)) (hy : Good P w K a d (.e y l σ₁) (.v (.int i) σ₂)) (ht : lstAt σ₂ j = some t) (hl : t.length ≤ 65536) (h0 : 0 ≤ i) :
    Good P w K a d (.e (.slTo x y) l σ) (.v (.ref σ₂.length) (σ₂ ++ [.lst (t.take i.toNat)])) := by
  intro c e A B ρ s ao hi ar st
  obtain ⟨e1, e2, p, pos, i1, i2⟩ := isE_slTo hi
  refine ⟨fun Q E h => ?_, fun b hb => by cases hb⟩
  refine slice_eval ((hx c e1 A B ρ s ao i1 ar st).1 _ _ fun v s₁ ⟨B₁, ρ₁, t₁, S₁, r₁⟩ => ?_)
  rw [evalPart_none]
  refine wpAny_pure ?_
  refine (hy c e2 A B₁ ρ₁ s₁ ao i2 ar (st.step t₁ S₁)).1 _ _ fun v₂ s₂ ⟨B₂, ρ₂, t₂, S₂, r₂⟩ => ?_
  obtain ⟨u, rfl⟩ := r₂.int'
  obtain ⟨b, xs, rfl, hL, e1, e2⟩ := lst_at S₂.toSt0 ht (r₁.mono t₂.base t₂.pre)
  obtain ⟨o, o1, o2, n, o3⟩ := hL
  have hL' : (s₂.heap.push { cls := .type "slice", data := .fields #[.none, .int i u, .none] }).IsList b xs := ⟨o, push_keeps _ _ _ _ o1, o2, n, o3⟩
  refine ⟨"list", _, hL'.typeIs, slot_list_getitem.lookup, wpAny_getItem_list_slice (lo := none) (hi := some i) (st := none) hL' ⟨_, Heap.get?_push_size _ rfl, rfl, rfl⟩ .none (.int ..) .none (by simp) ?_ (by rw [sizeLine_eq]; lia)⟩
  rw [pick_upto xs h0]
  have k : ∀ b o, s₂.heap.get? b = some o → (((s₂.heap.push { cls := .type "slice", data := .fields #[.none, .int i u, .none] }).push { cls := .type "list", data := .seq (xs.toList.take i.toNat).toArray })).get? b = some o := fun b o e => push_keeps _ _ _ _ (push_keeps _ _ _ _ e)
  have hn : s₂.heap.get? (s₂.heap.push { cls := .type "slice", data := .fields #[.none, .int i u, .none] }).objs.size = none := by
    cases z : s₂.heap.get? (s₂.heap.push { cls := .type "slice", data := .fields #[.none, .int i u, .none] }).objs.size with
    | none => rfl
    | some o => exact absurd (Heap.lt_size (push_keeps _ { cls := .type "slice", data := .fields #[.none, .int i u, .none] } _ _ z)) (Nat.lt_irrefl _)
  have M : ∀ pp, MOk a.cls B₂ (ρ₂ ++ [pp]) (((s₂.heap.push { cls := .type "slice", data := .fields #[.none, .int i u, .none] }).push { cls := .type "list", data := .seq (xs.toList.take i.toNat).toArray })) (.lst (t.take i.toNat)) ((s₂.heap.push { cls := .type "slice", data := .fields #[.none, .int i u, .none] }).objs.size, (s₂.heap.push { cls := .type "slice", data := .fields #[.none, .int i u, .none] }).objs.size) := by
    intro pp
    refine ⟨rfl, _, _, _, Heap.get?_push_size _ rfl, rfl, ⟨rfl, rfl⟩, rfl, by simp [e1], fun q p v x y => ?_⟩
    rw [List.getElem?_take] at x
    rw [List.getElem?_toArray, List.getElem?_take] at y
    split at x
    · rename_i hq
      rw [if_pos hq] at y
      exact (e2 q p v x (by rw [← Array.getElem?_toList]; exact y)).mono (fun _ _ e => e) (List.prefix_append _ _)
    · cases x
  obtain ⟨t₃, S₃⟩ := S₂.made (s' := { s₂ with heap := ((s₂.heap.push { cls := .type "slice", data := .fields #[.none, .int i u, .none] }).push { cls := .type "list", data := .seq (xs.toList.take i.toNat).toArray }) }) k hn hn (M _) rfl rfl (frs c.fr) (frs c.fr)
  exact h _ _ ⟨_, _, (t₁.trans t₂).trans t₃, S₃, .ref (d := _) (by rw [List.getElem?_append_right (by rw [S₂.len]; exact Nat.le_refl _), S₂.len, Nat.sub_self]; rfl)⟩
end
end Mine
end
section
open PySem PySem.W PyProof.Rows PySem.Calls
namespace Mine
section
variable {P : Program} {w : World} {K : Frag} {a : Adr} {d : Nat}

theorem ofString_st (x : String) : Str.ofString x = st (x.toList.map Char.toNat) := by
  rw [Str.ofString_eq_byList]; rfl
theorem sum_ok {A : Around} {s : Shared} {l : Addr} {xs : Array V} {ns : List Int} {Q : V → Shared → Prop} {E : V → Shared → Prop} (hh : A.handled = none) (hl : s.heap.IsList l xs) (hi : IntsAre xs.toList ns)
    (h : ∀ h' tk t', (∀ b o, s.heap.get? b = some o → h'.get? b = some o) → Q (.int ns.sum t') { s with heap := h', toks := tk }) : wpAny (model P w) A (call (.builtin "sum") [.ref l]) Q E s := by
  have all : AllInts xs := by have := hi.allInts; simpa using this
  obtain ⟨ys, rfl⟩ := all.items
  have hn := hi.numsOf
  rw [nums_intItems] at hn
  refine sum_intListG hh hl fun h' tk t' k => ?_
  rw [preSum_eq, List.take_of_length_le (by simp), hn]
  exact h h' tk t' k
set_option tactic.hygienic true in
theorem ints_of {B : Heap} {ρ : Rho} : ∀ (l : List PV) (vs : List V) (ns : List Int), l.length = vs.length → (∀ (i : Nat) p v, l[i]? = some p → vs[i]? = some v → RepV a.cls B ρ p v) → intsOf l = some ns → IntsAre vs ns
  | [], [], ns, _, _, e => by cases e; exact .nil
  | [], _ :: _, _, e, _, _ => by simp at e
  | _ :: _, [], _, e, _, _ => by simp at e
  | p :: l, v :: vs, ns, e, k, h => by
    cases p <;> first | (simp [intsOf] at h; done) | skip
    rename_i i
    simp only [intsOf] at h
    obtain ⟨ms, h1, rfl⟩ := Option.map_eq_some_iff.mp h
    obtain ⟨t, rfl⟩ := (k 0 _ v rfl rfl).int'
    exact .cons _ _ (ints_of l vs ms (by simpa using e) (fun i p v x y => k (i + 1) p v (by simpa using x) (by simpa using y)) h1)

theorem reps1 {B : Heap} {ρ : Rho} {p : PV} {vs : List V} (r : Reps a B ρ [p] vs) : ∃ v, vs = [v] ∧ RepV a.cls B ρ p v := by
  obtain ⟨v, rfl⟩ := List.length_eq_one_iff.mp r.1.symm
  exact ⟨v, rfl, r.2 0 p v rfl rfl⟩
theorem reps2 {B : Heap} {ρ : Rho} {p q : PV} {vs : List V} (r : Reps a B ρ [p, q] vs) : ∃ v u, vs = [v, u] ∧ RepV a.cls B ρ p v ∧ RepV a.cls B ρ q u := by
  obtain ⟨v, vs, rfl⟩ := List.exists_cons_of_length_eq_add_one r.1.symm
  obtain ⟨u, rfl⟩ := List.length_eq_one_iff.mp (Nat.succ.inj r.1.symm)
  exact ⟨v, u, rfl, r.2 0 p v rfl rfl, r.2 1 q u rfl rfl⟩

theorem rng_ok {fr : List Env} {B : Heap} {ρ : Rho} {σ : Store} {s : Shared} {o : Obj} {lo hi : Int} {t1 t2 t3 : Tok} {n : Nat} (S : St a.cls K fr B ρ σ s.heap) (e : o = { cls := .type "range", data := .fields #[.int lo t1, .int hi t2, .int 1 t3] }) :
    OkE K a fr B ρ s (.rng lo hi) σ (.ref s.heap.objs.size) { s with heap := s.heap.push o, toks := n } := by
  subst e
  obtain ⟨t₂, S₂⟩ := S.known (s' := { s with heap := s.heap.push { cls := .type "range", data := .fields #[.int lo t1, .int hi t2, .int 1 t3] }, toks := n }) (push_keeps _ _) [s.heap.objs.size] (fun b m => by rw [List.mem_singleton.mp m]; exact get?_size _) rfl rfl (frs fr) (frs fr)
  exact ⟨_, _, t₂, S₂, .rng (growH_in (Heap.get?_push_size _ rfl) (.inr (.head _)))⟩

theorem oneV_inv {f : PV → Option PV} {r : PV} : ∀ {ps : List PV}, oneV f ps = some r → ∃ p, ps = [p] ∧ f p = some r
  | [p], h => ⟨p, rfl, h⟩
  | [], h => nomatch h
  | _ :: _ :: _, h => nomatch h
inductive LenOk (σ : Store) (n : Nat) : PV → Prop
  | str (l : List Nat) (h : l.length = n) : LenOk σ n (.str l)
  | tup (l : List PV) (h : l.length = n) : LenOk σ n (.tup l)
  | lst (p : PV) (l : List PV) (h1 : lstAt σ p = some l) (h : l.length = n) : LenOk σ n p
theorem lenOf_inv {σ : Store} {n : Nat} {p : PV} (h : lenOf σ p = some n) : LenOk σ n p := by
  have gen : (lstAt σ p).map List.length = some n → LenOk σ n p := fun h => by
    obtain ⟨l, h1, h2⟩ := Option.map_eq_some_iff.mp h
    exact .lst p l h1 h2
  cases p with
  | str l => exact .str l (Option.some.inj h)
  | tup l => exact .tup l (Option.some.inj h)
  | _ => exact gen h
inductive RngOk (r : PV) : List PV → Prop
  | one (b : Int) (h : r = .rng 0 b) : RngOk r [.int b]
  | two (a b : Int) (h : r = .rng a b) : RngOk r [.int a, .int b]
theorem range_inv {σ : Store} {r : PV} {ps : List PV} (h : biV σ .range ps = some r) : RngOk r ps := by
  cases ps with
  | nil => cases h
  | cons p ps => cases ps with
    | nil =>
      obtain ⟨b, h1, h⟩ := Option.bind_eq_some_iff.mp h
      rw [asInt_inv h1]; exact .one b (if_inv h).2
    | cons q ps => cases ps with
      | nil =>
        cases int2_inv h with | mk i j h => exact .two i j (if_inv h).2
      | cons _ _ => cases h
theorem bi_ok {A : Around} {fr : List Env} {B : Heap} {ρ : Rho} {σ : Store} {s : Shared} {b : Bi} {ps : List PV} {r : PV} {vs : List V} {Q : V → Shared → Prop} {E : V → Shared → Prop} (ar : Ar A fr d) (S : St a.cls K fr B ρ σ s.heap) (hp : Reps a B ρ ps vs) (hr : biV σ b ps = some r)
    (h : ∀ v s', OkE K a fr B ρ s r σ v s' → Q v s') : wpAny (model P w) A (call (biVal b) vs) Q E s := by
  cases b with
  | ord =>
    obtain ⟨p, rfl, e⟩ := oneV_inv hr
    obtain ⟨c, e1, rfl⟩ := Option.map_eq_some_iff.mp e
    cases one_inv e1
    obtain ⟨v, rfl, r1⟩ := reps1 hp
    obtain ⟨t, rfl⟩ := r1.str'
    exact ord_of_one rfl (h _ _ (okE_now S (.int ..)))
  | len =>
    obtain ⟨p, rfl, e⟩ := oneV_inv hr
    obtain ⟨n, e1, e2⟩ := Option.bind_eq_some_iff.mp e
    obtain ⟨hl, rfl⟩ := if_inv e2
    obtain ⟨v, rfl, r1⟩ := reps1 hp
    cases lenOf_inv e1 with
    | str l q =>
      obtain ⟨t, rfl⟩ := r1.str'
      refine PyProof.Rows.len_str (by rw [st_length]; lia) (h _ _ ?_)
      rw [st_length, q]
      exact okE_now S (.int ..)
    | tup l q =>
      cases r1 with | tup h1 h2 h3 h4 h5 =>
      refine PyProof.Rows.len_tuple ⟨_, S.stays _ _ h1, h2, _, h3⟩ (by lia) (h _ _ ?_)
      rw [← h4, q]
      exact okE_now S (.int ..)
    | lst p l e' q =>
      obtain ⟨x, xs, rfl, hL, e1, e2⟩ := lst_at S.toSt0 e' r1
      refine call_len_list hL (by lia) (h _ _ ?_)
      rw [← e1, q]
      exact okE_now S (.int ..)
  | str =>
    obtain ⟨p, rfl, e⟩ := oneV_inv hr
    obtain ⟨i, e1, e⟩ := Option.bind_eq_some_iff.mp e
    cases asInt_inv e1
    obtain ⟨hi, rfl⟩ := if_inv e
    obtain ⟨v, rfl, r1⟩ := reps1 hp
    obtain ⟨t, rfl⟩ := r1.int'
    refine PySem.P.str_of_int ?_ (h _ _ ?_)
    · have h2 : i.natAbs < 2 ^ 64 := by omega
      by_cases z : i.natAbs = 0
      · rw [z]; decide
      · exact Nat.lt_trans ((Nat.log2_lt z).mpr h2) (by decide)
    · rw [ofString_st]
      exact okE_now S (.str ..)
  | range =>
    cases range_inv hr with
    | one b e =>
      subst e
      obtain ⟨v, rfl, r1⟩ := reps1 hp
      obtain ⟨t, rfl⟩ := r1.int'
      exact call_range_1 (h _ _ (rng_ok S rfl))
    | two a b e =>
      subst e
      obtain ⟨v, u, rfl, r1, r2⟩ := reps2 hp
      obtain ⟨t, rfl⟩ := r1.int'; obtain ⟨t', rfl⟩ := r2.int'
      exact call_range_2 (h _ _ (rng_ok S rfl))
  | toInt => cases hr
  | sum =>
    obtain ⟨p, rfl, e⟩ := oneV_inv hr
    obtain ⟨l, e0, e⟩ := Option.bind_eq_some_iff.mp e
    obtain ⟨ns, e3, rfl⟩ := Option.map_eq_some_iff.mp e
    obtain ⟨v, rfl, r1⟩ := reps1 hp
    obtain ⟨x, xs, rfl, hl, e1, e2⟩ := lst_at S.toSt0 e0 r1
    refine sum_ok ar.handled hl (ints_of (a := a) (B := B) (ρ := ρ) l xs.toList ns (by simpa using e1) (fun i p v x y => e2 i p v x (by simpa using y)) e3) fun h' tk t' k => h _ _ ⟨B, ρ, .of_keeps k, S.keeps k, .int ..⟩

theorem args_plain {c : Act} {pos : Pos} : ∀ {xs : List E} {es : List XE}, isEs c.S xs es = true → (backTo pos (starEach es c.env)).any (·.1) = false
  | [], es, h => by obtain rfl := isEs_nil h; rfl
  | x :: r, es, h => by
    obtain ⟨y, q, i1, i2, i3⟩ := isEs_cons h
    rw [star_cons i2]
    show (false || (backTo pos (starEach q c.env)).any (·.1)) = false
    rw [args_plain i3]; rfl

theorem g_bi {σ σ₁ : Store} {l : Loc} {b : Bi} {xs : List E} {ps : List PV} {r : PV} (hx : Good P w K a d (.es xs l σ) (.vs ps σ₁)) (hr : biV σ₁ b ps = some r) : Good P w K a d (.e (.bi b xs) l σ) (.v r σ₁) := by
  intro c e A B ρ s ao hi ar st
  obtain ⟨xp, es, pos, i2, i3⟩ := isE_bi hi
  obtain ⟨y, q, rfl, j1, j2, j3⟩ : ∃ y q, es = y :: q ∧ (∃ x r, xs = x :: r ∧ isEs c.S r q = true) ∧ noStar y = true ∧ True := by
    cases xs with
    | nil =>
      have := hx.1
      rw [List.length_nil, List.length_eq_zero_iff] at this
      subst this
      cases b <;> cases hr
    | cons x r => obtain ⟨y, q, k1, k2, k3⟩ := isEs_cons i3; exact ⟨y, q, rfl, ⟨x, r, rfl, k3⟩, k2, trivial⟩
  obtain ⟨x', r', rfl, j1⟩ := j1
  obtain ⟨mg, mb, N⟩ := ao.fa.names B st.1.kin
  have ev : ∀ Q E, (∀ v s', OkE K a c.fr B ρ s r σ₁ v s' → Q v s') → wpAny (model P w) A (eval (.Call (.Name (Mine.st (biName b)) xp) (y :: q) [] pos) c.env) Q E s := fun Q E h => by
    refine Call_Name rfl (ld_bi ao i2 st.1.stays N ?_)
    have core : wpAny (model P w) A (spliced (backTo pos (starEach (y :: q) c.env))) (fun vs s₁ => wpAny (model P w) A (call (biVal b) vs) Q E s₁) E s :=
      hx.2 c (y :: q) pos A B ρ s ao i3 ar st _ _ fun vs s₁ ⟨B₁, ρ₁, t₁, S₁, r₁⟩ => bi_ok ar S₁ r₁ hr fun v s' ok => h _ _ (ok.pre t₁)
    cases b
    case ord => exact callWith_builtin1 core (star_cons j2) (args_plain j1)
    case len => exact callWith_builtin1 core (star_cons j2) (args_plain j1)
    case sum => exact callWith_builtin1 core (star_cons j2) (args_plain j1)
    case str => exact callWith_type1 core (star_cons j2) (args_plain j1)
    case range => exact callWith_type1 core (star_cons j2) (args_plain j1)
    case toInt => exact callWith_type1 core (star_cons j2) (args_plain j1)
  exact ⟨ev, test_of rfl ev⟩
end
end Mine
end
section
open PySem PySem.W PyProof.Rows PySem.Calls
namespace Mine
section
variable {P : Program} {w : World} {K : Frag} {a : Adr} {d : Nat}

theorem zip_lookup_none : ∀ (ns : List Str) (vs : List V) (x : Str), ns.length = vs.length → x ∈ ns → ((ns.zip vs).lookup x).isNone = false
  | [], _, _, _, h => by cases h
  | n :: ns, [], _, e, _ => by simp at e
  | n :: ns, v :: vs, x, e, h => by
    rw [List.zip_cons_cons, List.lookup_cons]
    by_cases q : x = n
    · subst q; simp
    · rw [show (x == n) = false from beq_eq_false_iff_ne.mpr q]
      rcases List.mem_cons.mp h with z | z
      · exact absurd z q
      · exact zip_lookup_none ns vs x (by simpa using e) z
theorem zip_fill : ∀ (ns : List Str) (vs : List V), ns.Nodup → ns.length = vs.length → ns.filterMap (fun n => ((ns.zip vs).lookup n).map (n, ·)) = ns.zip vs := by
  intro ns vs nd e
  have key : ∀ (ns : List Str) (vs : List V), ns.Nodup → ns.length = vs.length → ∀ f : Str → Option V, (∀ n ∈ ns, f n = (ns.zip vs).lookup n) → ns.filterMap (fun n => (f n).map (n, ·)) = ns.zip vs := by
    intro ns
    induction ns with
    | nil => intro vs _ _ f _; rfl
    | cons n ns ih =>
      intro vs nd e f hf
      cases vs with
      | nil => simp at e
      | cons v vs =>
        obtain ⟨n1, n2⟩ := List.nodup_cons.mp nd
        have h0 := hf n (.head _)
        rw [List.zip_cons_cons, List.lookup_cons, beq_self_eq_true] at h0
        rw [List.filterMap_cons, h0, List.zip_cons_cons]
        simp only [Option.map_some]
        rw [ih vs n2 (by simpa using e) f fun m hm => ?_]
        rw [hf m (.tail _ hm), List.zip_cons_cons, List.lookup_cons]
        rw [show (m == n) = false from beq_eq_false_iff_ne.mpr fun q => n1 (q ▸ hm)]
  exact key ns vs nd e _ fun _ _ => rfl

theorem bind_plain {name qual : Str} {ps : List Arg} {body : List XS} {sc : Scope} {doc pm cdv ct : V} {an : Option Addr} {vs : List V} (e : ps.length = vs.length) (nd : (ps.map (·.arg)).Nodup) :
    bindArgs (fnOf name qual ⟨[], ps, none, [], [], none, []⟩ body sc .none .none doc pm an cdv ct) ⟨vs, []⟩ = pure ((ps.map (·.arg)).zip vs) := by
  have e' : (ps.map (·.arg)).length = vs.length := by simpa using e
  unfold bindArgs seqItems?
  have filt : (List.map (fun x => x.arg) ps).filter (fun n => (((ps.map (·.arg)).zip vs).lookup n).isNone) = [] := by
    rw [List.filter_eq_nil_iff]
    intro n hn
    rw [zip_lookup_none _ _ n e' hn]; exact Bool.false_ne_true
  have z0 : ((none : Option (Array V)).getD #[]).toList = [] := rfl
  have z1 : (List.map (fun x => x.arg) ps).take vs.length = List.map (fun x => x.arg) ps := List.take_of_length_le (by rw [e']; exact Nat.le_refl _)
  have z2 : (List.map (fun x => x.arg) ps).drop vs.length = [] := List.drop_eq_nil_of_le (by rw [e']; exact Nat.le_refl _)
  simp only [List.map_nil, List.nil_append, List.append_nil, List.forIn_nil, pure_bind, notAStandIn, e', Nat.lt_irrefl, decide_false, Bool.false_and, z0, List.drop_nil, List.length_nil, Nat.sub_zero, z1, z2, List.zip_nil_right, filt, List.isEmpty_nil, Bool.not_true, Bool.false_eq_true, if_false]
  exact congrArg pure (zip_fill _ _ nd e')

theorem lookup_mem {x : Str} {v : V} : ∀ {l : List (Str × V)}, (l.map (·.1)).Nodup → (x, v) ∈ l → l.lookup x = some v
  | [], _, h => by cases h
  | (y, u) :: l, nd, h => by
    obtain ⟨n1, n2⟩ := List.nodup_cons.mp nd
    rw [List.lookup_cons]
    rcases List.mem_cons.mp h with q | q
    · cases q; rw [beq_self_eq_true]
    · have : x ≠ y := fun e => n1 (List.mem_map.mpr ⟨_, q, e⟩)
      rw [show (x == y) = false from beq_eq_false_iff_ne.mpr this]
      exact lookup_mem n2 q
theorem bind_lookup {ns : List Str} {vs : List V} (nd : ns.Nodup) (e : ns.length = vs.length) {i : Nat} {x : Str} {v : V} (hx : ns[i]? = some x) (hv : vs[i]? = some v) : (ns.zip vs).reverse.lookup x = some v := by
  refine lookup_mem ?_ ?_
  · rw [List.map_reverse, List.map_fst_zip (by lia)]
    exact List.pairwise_reverse.mpr (List.Pairwise.imp (fun h => Ne.symm h) nd)
  · rw [List.mem_reverse]
    exact List.mem_iff_getElem?.mpr ⟨i, by rw [List.getElem?_zip_eq_some]; exact ⟨hx, hv⟩⟩

theorem Ar.deeper {A : Around} {fr : List Env} {env : Env} (h : Ar A fr (d + 1)) : Ar (A.deeper env) (env :: fr) d :=
  ⟨Around.frames_deeper h.frames, h.handled, by have := h.room; show A.depth + 1 + 3 * d + 5 ≤ _; lia, by have := h.units; show A.units + 3 + 40 * d + 200 ≤ _; lia⟩

theorem enter {fr : List Env} {B : Heap} {ρ : Rho} {σ : Store} {s : Shared} {h₀ : Heap} {n : Nat} {f : Nat} {fn : Fn} {as : List PV} {vs : List V} {c : Act} (fa : Fa K a) (S : St a.cls K fr B ρ σ s.heap) (r : Reps a B ρ as vs) (hk : c.sc.kind = .function)
    (hL : c.L = s.heap.objs.size) (ho : c.outer = fr) (nd : c.names.Nodup) (hnp : as.length = fn.np) (hle : fn.np ≤ c.names.length) (hn : h₀.Ns c.L (fun x => ((c.names.take fn.np).zip vs).reverse.lookup x)) (k : ∀ b o, s.heap.get? b = some o → h₀.get? b = some o) :
    St1 K a c B ρ σ (as.map some ++ List.replicate (fn.nl - fn.np) none) { s with heap := h₀, toks := n } := by
  subst ho
  have e : (c.names.take fn.np).length = vs.length := by rw [List.length_take, ← r.1]; lia
  have alive : ∀ b, (∃ o, s.heap.get? b = some o) → b ≠ c.L := fun b ⟨o, e⟩ q => by rw [q, hL, get?_size] at e; cases e
  have S' : St a.cls K c.outer B ρ σ h₀ := S.keeps k
  refine ⟨⟨S'.toSt0, fun b hb hf => ?_, Heap.FunFrames.cons (by show c.sc.kind ≠ _; rw [hk]; exact fun q => nomatch q) rfl hn ?_ S'.frames⟩, _, hn, fun i p hp => ?_⟩
  · rw [isFr, show c.fr = c.env :: c.outer from rfl, List.filterMap_cons, show c.env.frame = some c.L from rfl] at hf
    rcases List.mem_cons.mp hf with q | q
    · exact alive b (own_alive S.toSt0 hb) q
    · exact S.off b hb q
  · cases q : B.get? c.L with
    | none => rfl
    | some o => exact absurd rfl (alive c.L ⟨o, S.stays _ _ q⟩)
  · unfold locAt at hp
    rcases Nat.lt_or_ge i as.length with hi | hi
    · rw [List.getElem?_append_left (by simpa using hi), List.getElem?_map, List.getElem?_eq_getElem hi] at hp
      cases hp
      have hi' : i < vs.length := by rw [← r.1]; exact hi
      have hx : i < c.names.length := by lia
      refine ⟨c.names[i], vs[i], List.getElem?_eq_getElem hx, ?_, r.2 i _ _ (List.getElem?_eq_getElem hi) (List.getElem?_eq_getElem hi')⟩
      refine bind_lookup (nd.sublist (List.take_sublist _ _)) e (i := i) ?_ (List.getElem?_eq_getElem hi')
      rw [List.getElem?_take, if_pos (by lia)]; exact List.getElem?_eq_getElem hx
    · rw [List.getElem?_append_right (by simpa using hi)] at hp
      rw [List.getElem?_replicate] at hp
      split at hp <;> cases hp

theorem leave {B B' : Heap} {ρ ρ' : Rho} {σ' : Store} {s s₀ s' : Shared} {c : Act} (k : ∀ b o, s.heap.get? b = some o → s₀.heap.get? b = some o) (ho : s₀.os = s.os) (hg : s₀.gens = s.gens) (hL : s.heap.get? c.L = none)
    (t : Step (frs c.fr) (frs c.fr.tail) B ρ s₀ B' ρ' s') (S : St a.cls K c.fr B' ρ' σ' s'.heap) : Step (frs c.outer) (frs c.outer) B ρ s B' ρ' s' ∧ St a.cls K c.outer B' ρ' σ' s'.heap := by
  rw [Act.frs_eq] at t
  refine ⟨Step.drop hL (.of_keeps k ho hg) t, S.toSt0, fun b hb hf => S.off b hb (isFr_tail hf), S.frames.2.2⟩

theorem fresh_frame {fr : List Env} {B : Heap} {ρ : Rho} {σ : Store} {s : Shared} (S : St a.cls K fr B ρ σ s.heap) : s.heap.objs.size ∉ frs fr := fun h => by
  obtain ⟨o, e⟩ := fr_alive S.frames h
  rw [get?_size] at e; cases e
theorem g_call' {σ σ' : Store} {f : Nat} {fn : Fn} {as : List PV} {l' : Loc} {fl : Flow} {p : PV} (hf : fnTab f = some fn) (hn : as.length = fn.np) (hp : p = match fl with | .ret v => v | .next => .none)
    (h : Good P w K a d (.ss fn.body (as.map some ++ List.replicate (fn.nl - fn.np) none) σ) (.fl fl l' σ')) : Good P w K a (d + 1) (.call f as σ) (.v p σ') := by
  intro fr A B ρ s vs fa ar S r R hR
  obtain ⟨name, qual, params, body, sc, doc, pm, cdv, ct, oc, an, od, osl, ho, hcd, hpar, hargs, hle, hlen, hnd, hloc, hcell, hco, hgen, hkind, hbody⟩ := (fa.fn f fn hf).at_
  obtain ⟨po, ps, va, ko, kd, kw, df⟩ := params
  cases hpar
  have e : ps.length = vs.length := by
    have := congrArg List.length hargs
    rw [List.length_map, List.length_take, List.length_map] at this
    rw [this, ← r.1, hn]; rw [Nat.min_eq_left]; exact hle
  have X := S.kin.keeps S.stays
  have hle' : fn.np ≤ ((fnLocs f).map Mine.st).length := by rw [List.length_map]; exact hle
  refine codeAny_call_def (fd := fnOf name qual ⟨[], ps, none, [], [], none, []⟩ body sc .none .none doc pm an cdv ct) (body := body) (binds := (ps.map (·.arg)).zip vs) (by have := ar.room; lia) (X _ _ ho) rfl ((fa.lim B S.kin).keeps S.stays) (codeRec_of X hcd) rfl
    (.of_eq (bind_plain e (by rw [hargs]; exact hnd.sublist (List.take_sublist _ _)))) hcell (fun x hx => hloc x.1 ?_) (fun h₁ hns k => ?_) hco hgen hkind
  · have := List.of_mem_zip hx
    have := this.1
    rw [hargs] at this
    exact List.mem_of_mem_take this
  · have hfin := enter (n := s.toks + ((ps.map (·.arg)).zip vs).length) (f := f) (fn := fn) (c := ⟨qual, sc, s.heap.objs.size, a.fn f, cdv, fr, (fnLocs f).map Mine.st⟩) fa S r hkind rfl rfl hnd hn hle' (by rw [hargs] at hns; exact hns) k
    refine h ⟨qual, sc, s.heap.objs.size, a.fn f, cdv, fr, (fnLocs f).map Mine.st⟩ body (A.deeper _) B ρ _ ⟨hkind, hnd, fa, fresh_frame S⟩ hbody ar.deeper hfin _ _ fun g s' ⟨B', ρ', t', S', lo', fr'⟩ => ?_
    obtain ⟨t₂, S₂⟩ := leave (c := ⟨qual, sc, s.heap.objs.size, a.fn f, cdv, fr, (fnLocs f).map Mine.st⟩) (s := s) (s₀ := { s with heap := h₁, toks := s.toks + ((ps.map (·.arg)).zip vs).length }) k rfl rfl (get?_size _) t' S'
    refine hR _ _ ⟨B', ρ', t₂, S₂, ?_⟩
    subst hp
    cases fl <;> cases g <;> first | exact fr'.elim | skip
    · exact .none
    · exact fr'
end
end Mine
end
section
open PySem PySem.W PyProof.Rows PySem.Calls
namespace Mine
section
variable {P : Program} {w : World} {K : Frag} {a : Adr} {d : Nat}

theorem Ext.drop {xs : List Addr} {it : Addr} {B B' : Heap} {ρ ρ' : Rho} {s s' : Shared} (hit : s.heap.get? it = none) (z : Ext (it :: xs) B ρ s B' ρ' s') : Ext xs B ρ s B' ρ' s' := by
  refine ⟨z.base, fun a o e => ?_, z.pre, fun a e => ?_, z.os, z.gens⟩
  · rcases z.fresh a o e with q | q | q | q
    · exact .inl q
    · exact .inr (.inl q)
    · rcases List.mem_cons.mp q with rfl | q
      · exact .inr (.inl hit)
      · exact .inr (.inr (.inl q))
    · exact .inr (.inr (.inr q))
  · rcases z.new a e with q | q | q
    · exact .inl q
    · exact .inr (.inl q)
    · rcases List.mem_cons.mp q with rfl | q
      · exact .inr (.inl hit)
      · exact .inr (.inr q)
theorem Ext.heap {xs : List Addr} {B B' : Heap} {ρ ρ' : Rho} {s s' : Shared} (z : Ext xs B ρ s B' ρ' s') (h : Heap) : Ext xs B ρ s B' ρ' { s' with heap := h } := ⟨z.base, z.fresh, z.pre, z.new, z.os, z.gens⟩

/-- the frame is left -/
theorem leaves {A : Around} {c : Act} {B : Heap} {ρ : Rho} {σ' : Store} {s s₀ s' : Shared} {e : V} {Q : Unit → Shared → Prop} {E : V → Shared → Prop} (k : ∀ b o, s.heap.get? b = some o → s₀.heap.get? b = some o) (ho : s₀.os = s.os) (hg : s₀.gens = s.gens) (hL : s.heap.get? c.L = none)
    (hA : A.frames = some c.fr) (x : ExX K a c.fr c.L (frs c.fr) B ρ s₀ σ' e s') (h : ∀ s'', ExC K a c.outer B ρ s σ' e s'' → Q () s'') : wpAny (model P w) A (leaving c.env e) Q E s' := by
  obtain ⟨B', ρ', Bx, ea, rfl, x1, x2, x3, x4, x5, x6⟩ := x
  have fin : ∀ h' a0, Heap.FlyingW Bx c.outer ea (.ref a.err) a0 h' → s'.heap.UpToSlots h' → Q () { s' with heap := h' } := fun h' a0 fl up => by
    refine h _ ⟨B', ρ', Bx, ea, rfl, ?_, x2, fun b hb hf => x3 b hb (isFr_tail hf), ⟨a0, fl⟩, fun b o q n f => ?_, fun b m f q => up.ns (x6 b m f (q.keeps k))⟩
    · have z := (Step.of_keeps (xs := c.L :: frs c.outer) (ks := []) (B := B) (ρ := ρ) k ho hg).ext (x1.weak fun b hb => by rw [← Act.frs_eq]; exact hb)
      exact (z.drop hL).heap h'
    · refine x5 b o (k b o q) n fun m => ?_
      rw [Act.frs_eq] at m
      rcases List.mem_cons.mp m with rfl | m
      · rw [hL] at q; cases q
      · exact f m
  rcases x4 with ⟨k1, k2, k3, oe, vs, a0, k4, k5, k6, k7, k8⟩ | ⟨a0, fl⟩ | ⟨a0, he⟩
  · refine wpAny_leaving_firstW (base := Bx) hA k3 rfl k4 k1 k2 k6 k8 k7 fun h' ⟨q1, q2, q3, q4⟩ => fin h' a0 ⟨q1, k2, q2.2.2, ?_⟩ q4
    rw [← k5]; exact q3
  · exact wpAny_leaves_onW hA rfl fl fun h' q up => fin h' a0 q up
  · unfold leaving
    refine wpAny_bind (wpAny_noteFrame_againW rfl he.2.2.2 ?_)
    refine wpAny_landsW he fun h' hfl up => ?_
    obtain ⟨k1, k2, ⟨_, _, k3⟩, k4⟩ := hfl
    exact fin h' a0 ⟨k1, k2, k3, k4⟩ up

theorem x_call' {σ σ' : Store} {f : Nat} {fn : Fn} {as : List PV} (hf : fnTab f = some fn) (hn : as.length = fn.np)
    (h : Good P w K a d (.ss fn.body (as.map some ++ List.replicate (fn.nl - fn.np) none) σ) (.exc σ')) : Good P w K a (d + 1) (.call f as σ) (.exc σ') := by
  intro fr A B ρ s vs fa ar S r R hR
  obtain ⟨name, qual, params, body, sc, doc, pm, cdv, ct, oc, an, od, osl, ho, hcd, hpar, hargs, hle, hlen, hnd, hloc, hcell, hco, hgen, hkind, hbody⟩ := (fa.fn f fn hf).at_
  obtain ⟨po, ps, va, ko, kd, kw, df⟩ := params
  cases hpar
  have e : ps.length = vs.length := by
    have := congrArg List.length hargs
    rw [List.length_map, List.length_take, List.length_map] at this
    rw [this, ← r.1, hn]; rw [Nat.min_eq_left]; exact hle
  have X := S.kin.keeps S.stays
  have hle' : fn.np ≤ ((fnLocs f).map Mine.st).length := by rw [List.length_map]; exact hle
  refine codeAny_call_def (fd := fnOf name qual ⟨[], ps, none, [], [], none, []⟩ body sc .none .none doc pm an cdv ct) (body := body) (binds := (ps.map (·.arg)).zip vs) (by have := ar.room; lia) (X _ _ ho) rfl ((fa.lim B S.kin).keeps S.stays) (codeRec_of X hcd) rfl
    (.of_eq (bind_plain e (by rw [hargs]; exact hnd.sublist (List.take_sublist _ _)))) hcell (fun x hx => hloc x.1 ?_) (fun h₁ hns k => ?_) hco hgen hkind
  · have := List.of_mem_zip hx
    have := this.1
    rw [hargs] at this
    exact List.mem_of_mem_take this
  · have hfin := enter (n := s.toks + ((ps.map (·.arg)).zip vs).length) (f := f) (fn := fn) (c := ⟨qual, sc, s.heap.objs.size, a.fn f, cdv, fr, (fnLocs f).map Mine.st⟩) fa S r hkind rfl rfl hnd hn hle' (by rw [hargs] at hns; exact hns) k
    have ar' := ar.deeper (env := (⟨qual, sc, s.heap.objs.size, a.fn f, cdv, fr, (fnLocs f).map Mine.st⟩ : Act).env)
    refine h ⟨qual, sc, s.heap.objs.size, a.fn f, cdv, fr, (fnLocs f).map Mine.st⟩ body (A.deeper _) B ρ _ ⟨hkind, hnd, fa, fresh_frame S⟩ hbody ar' hfin _ _ fun v s' x => ?_
    refine leaves (c := ⟨qual, sc, s.heap.objs.size, a.fn f, cdv, fr, (fnLocs f).map Mine.st⟩) (s := s) (s₀ := { s with heap := h₁, toks := s.toks + ((ps.map (·.arg)).zip vs).length }) k rfl rfl (get?_size _) ar'.frames x fun s'' y => hR _ _ y

/-- a call's end within its caller's frame -/
theorem ExC.x {c : Act} {B : Heap} {ρ : Rho} {σ' : Store} {s s' : Shared} {e : V} (x : ExC K a c.fr B ρ s σ' e s') : ExX K a c.fr c.L (frs c.fr) B ρ s σ' e s' := by
  obtain ⟨B', ρ', Bx, ea, e1, e2, e3, e4, ⟨a0, e5⟩, e6, e7⟩ := x
  exact ⟨B', ρ', Bx, ea, e1, e2, e3, e4, .inr (.inl ⟨a0, e5⟩), e6, fun b m f q => e7 b m (by rw [Act.frs_eq]; exact .tail _ f) q⟩

theorem evalArgs_all {M : Model} {A : Around} {s : Shared} {f : V} {c : Act} {as : List E} {es : List XE} {pos : Pos} {Q : Args → Shared → Prop} {E' : V → Shared → Prop} (hi : isEs c.S as es = true)
    (h : wpAny M A (spliced (backTo pos (starEach es c.env))) (fun vs s' => Q ⟨vs, []⟩ s') E' s) : wpAny M A (evalArgs f true (backTo pos (starEach es c.env)) []) Q E' s := by
  cases as with
  | nil =>
    obtain rfl := isEs_nil hi
    unfold evalArgs
    show wpAny M A (spliced [] >>= _) Q E' s
    refine wpAny_bind (wpAny_mono h (fun vs s' h' => wpAny_bind (wpAny_pure ?_)) fun _ _ x => x)
    refine wpAny_holding ?_
    exact wpAny_bind (wpAny_pure (wpAny_bind (wpAny_pure (wpAny_pure h'))))
  | cons x r =>
    obtain ⟨y, q, i1, i2, i3⟩ := isEs_cons hi
    rw [star_cons i2] at h ⊢
    exact evalArgs_plain h
theorem callWith_all {A : Around} {s : Shared} {f : V} {c : Act} {as : List E} {es : List XE} {pos : Pos} {first : List V} {Q : V → Shared → Prop} {E' : V → Shared → Prop} (hi : isEs c.S as es = true) (hk : keepIn K f = true)
    (h : wpAny (model P w) A (spliced (backTo pos (starEach es c.env))) (fun vs s₁ => K.In s₁.heap ∧ wpAny (model P w) A (call f (first ++ vs)) Q E' s₁) E' s) : wpAny (model P w) A (callWith pos f first (backTo pos (starEach es c.env)) []) Q E' s :=
  callWith_of (by rw [args_plain hi]; rfl) (keeps_K hk) (evalArgs_all hi h)

-- a call by name
/-- a call by name of a plain function -/
theorem call_name {c : Act} {A : Around} {B : Heap} {s : Shared} {f : Nat} {l : List Nat} {as : List E} {es : List XE} {xp pos : Pos} {Q : V → Shared → Prop} {E' : V → Shared → Prop} (ao : ActOk K a c) (kin : K.In B) (hs : B.StaysIn s.heap) (hl : fnName f = some l) (hg : c.S.glb (Mine.st l) = true) (hi : isEs c.S as es = true)
    (h : wpAny (model P w) A (spliced (backTo pos (starEach es c.env))) (fun vs s₁ => K.In s₁.heap ∧ wpAny (model P w) A (call (.ref (a.fn f)) vs) Q E' s₁) E' s) :
    wpAny (model P w) A (eval (.Call (.Name (Mine.st l) xp) es [] pos) c.env) Q E' s := by
  obtain ⟨mg, mb, N⟩ := ao.fa.names B kin
  refine Call_Name rfl (ld_glob ao hg hs N (N.fn f l hl) ?_)
  exact callWith_all hi (ao.fa.keepF f l hl) h
theorem g_call {σ σ₁ σ₂ : Store} {l : Loc} {f : Nat} {as : List E} {ps : List PV} {p : PV} (hx : Good P w K a d (.es as l σ) (.vs ps σ₁)) (hc : Good P w K a d (.call f ps σ₁) (.v p σ₂)) : Good P w K a d (.e (.call f as) l σ) (.v p σ₂) := by
  intro c e A B ρ s ao hi ar st
  obtain ⟨n, xp, es, pos, i1, i2, i3⟩ := isE_call hi
  have ev : ∀ Q E, (∀ v s', OkE K a c.fr B ρ s p σ₂ v s' → Q v s') → wpAny (model P w) A (eval (.Call (.Name (Mine.st n) xp) es [] pos) c.env) Q E s := fun Q E h => by
    refine call_name ao st.1.kin st.1.stays i1 i2 i3 (hx.2 c es pos A B ρ s ao i3 ar st _ _ fun vs s₁ ⟨B₁, ρ₁, t₁, S₁, r₁⟩ => ⟨S₁.kin.keeps S₁.stays, ?_⟩)
    exact wpAny_call (hc c.fr A B₁ ρ₁ s₁ vs ao.fa ar S₁ r₁ _ fun v s' ok => h _ _ (ok.pre t₁))
  exact ⟨ev, test_of rfl ev⟩
theorem x_call2 {σ σ₁ σ₂ : Store} {l : Loc} {f : Nat} {as : List E} {ps : List PV} (hx : Good P w K a d (.es as l σ) (.vs ps σ₁)) (hc : Good P w K a d (.call f ps σ₁) (.exc σ₂)) : Good P w K a d (.e (.call f as) l σ) (.exc σ₂) := by
  intro c e A B ρ s ao hi ar st Q E h
  obtain ⟨n, xp, es, pos, i1, i2, i3⟩ := isE_call hi
  refine call_name ao st.1.kin st.1.stays i1 i2 i3 (hx.2 c es pos A B ρ s ao i3 ar st _ _ fun vs s₁ ⟨B₁, ρ₁, t₁, S₁, r₁⟩ => ⟨S₁.kin.keeps S₁.stays, ?_⟩)
  exact wpAny_call (hc c.fr A B₁ ρ₁ s₁ vs ao.fa ar S₁ r₁ _ fun v s' ok => h _ _ (ExX.pre' t₁ ok.x))
end
end Mine
end
section
open PySem PySem.W PyProof.Rows PySem.Calls
namespace Mine
section
variable {P : Program} {w : World} {K : Frag} {a : Adr} {d : Nat}

theorem meth_open {c : Act} {A : Around} {s : Shared} {o : XE} {n : Str} {ap pos : Pos} {as : List E} {es : List XE} {Q : V → Shared → Prop} {E' : V → Shared → Prop} (hs : notSuper o = true) (hi : isEs c.S as es = true) (hl : (ap.endLine == pos.line) = true) (hn : es.length < 29)
    (h : wpAny (model P w) A (eval o c.env) (fun ov s₁ => ∀ pl, wpAny (model P w) A (getMethod ov n pl) (fun r s₂ => wpAny (model P w) A (callWith pos r.1 r.2 (backTo pos (starEach es c.env)) []) Q E' s₂) E' s₁) E' s) :
    wpAny (model P w) A (eval (.Call (.Attribute o n ap) es [] pos) c.env) Q E' s := by
  rw [arm_eval_Call]
  refine wpAny_bind (wpAny_base hs (wpAny_mono h (fun ov s₁ h₁ => wpAny_bind (wpAny_standAt ?_)) fun _ _ e => e))
  have hall : (backTo pos (starEach es c.env)).all (fun x => !x.1) = true := by
    have := args_plain (c := c) (pos := pos) hi
    rw [List.all_eq_true]
    intro x hx
    rw [List.any_eq_false] at this
    simpa using this x hx
  have hform : methodCallForm (es.length + ([] : List Keyword).length) (backTo pos (starEach es c.env)) (backToKw pos (keywordEach [] c.env)) = true := by
    unfold methodCallForm
    rw [hall]
    show (true && true && decide (_ + 0 + _ < 30)) = true
    have : es.length + 0 + (if (backToKw pos (keywordEach [] c.env)).isEmpty = true then 0 else 1) < 30 := by split <;> lia
    simpa using this
  have hpos : methodCallPos true o c.env ap pos = pure pos := by unfold methodCallPos; simp [hl]
  unfold methodCall
  rw [hform]
  unfold calleeOf
  refine wpAny_bind (wpAny_holding ?_)
  rw [if_pos rfl]
  exact wpAny_mono (h₁ _) (fun r s₂ h₂ => wpAny_bind (wpAny_of_eq hpos h₂)) fun _ _ e => e

/-- an own method -/
theorem method_own {A : Around} {s : Shared} {x : Addr} {c m f : Nat} {mm : Str → Option V} {pl : Sem Bool} {Q : V × List V → Shared → Prop} {E : V → Shared → Prop} (fa : Fa K a) (X : K.In s.heap) (i : InH a s.heap x c mm) (hm : methTab c m = some f) (h0 : mm (nm m) = none)
    (h : Q (.ref (a.fn f), [.ref x]) s) : wpAny (model P w) A (getMethod (.ref x) (nm m) pl) Q E s := by
  obtain ⟨c9, h1, h2, h3, h4, h5⟩ := fa.meth c m f hm
  obtain ⟨ox, od, I, l⟩ := i.inst (nm m)
  obtain ⟨g1, g2⟩ := plainGet_of (fa.ga c c9)
  exact method_fn X I g1 g2 h1 (beq_iff_eq.mp h2) (by show (lookIn (nm m) od).map _ = _; rw [l, h0]; rfl) h

set_option tactic.hygienic true in
/-- the class of a thing that has methods, and that the method's name is none of its fields -/
theorem inH_meth {B h : Heap} {ρ : Rho} {σ : Store} {p : PV} {v : V} {m f : Nat} (fa : Fa K a) (S : St0 a.cls K B ρ σ h) (r : RepV a.cls B ρ p v) (hm : methK σ p m = some (.call f)) :
    ∃ x c mm, v = .ref x ∧ InH a h x c mm ∧ methTab c m = some f ∧ mm (nm m) = none := by
  cases p <;> try (simp [methK] at hm; done)
  · rename_i c fs
    simp only [methK] at hm
    obtain ⟨f', e1, e2⟩ := Option.map_eq_some_iff.mp hm
    cases e2
    obtain ⟨x, mm, rfl, i, h1, h2⟩ := inH_of S.stays r
    exact ⟨x, c, mm, rfl, i, e1, h2 _ fun g p q => (fa.meth c m f e1).2.2.2.2.2 g (h1 g p q).1⟩
  · rename_i j
    simp only [methK] at hm
    split at hm
    · rename_i c fs e
      obtain ⟨f', e1, e2⟩ := Option.map_eq_some_iff.mp hm
      cases e2
      obtain ⟨x, dx, mm, rfl, hr, i, h1, h2⟩ := inH_ref S e r
      exact ⟨x, c, mm, rfl, i, e1, h2 _ fun g p q => (fa.meth c m f e1).2.2.2.2.2 g (h1 g p q).1⟩
    · split at hm
      · cases hm
      · split at hm <;> cases hm
    · cases hm

theorem x_meth1 {σ σ₁ : Store} {l : Loc} {x : E} {m : Nat} {as : List E} (hx : Good P w K a d (.e x l σ) (.exc σ₁)) : Good P w K a d (.e (.meth x m as) l σ) (.exc σ₁) := by
  intro c e A B ρ s ao hi ar st Q E h
  obtain ⟨o, ap, es, pos, i1, i2, i3, i4, i5⟩ := isE_meth hi
  exact meth_open i3 i2 i4 i5 (hx c o A B ρ s ao i1 ar st _ _ h)

theorem g_meth {σ σ₁ σ₂ σ₃ : Store} {l : Loc} {x : E} {m f : Nat} {as : List E} {p q : PV} {ps : List PV} (hx : Good P w K a d (.e x l σ) (.v p σ₁)) (hm : methK σ₁ p m = some (.call f)) (hy : Good P w K a d (.es as l σ₁) (.vs ps σ₂)) (hc : Good P w K a d (.call f (p :: ps) σ₂) (.v q σ₃)) :
    Good P w K a d (.e (.meth x m as) l σ) (.v q σ₃) := by
  intro c e A B ρ s ao hi ar st
  obtain ⟨o, ap, es, pos, i1, i2, i3, i4, i5⟩ := isE_meth hi
  have ev : ∀ Q E, (∀ v s', OkE K a c.fr B ρ s q σ₃ v s' → Q v s') → wpAny (model P w) A (eval (.Call (.Attribute o (nm m) ap) es [] pos) c.env) Q E s := fun Q E h => by
    refine meth_open i3 i2 i4 i5 ((hx c o A B ρ s ao i1 ar st).1 _ _ fun v s₁ ⟨B₁, ρ₁, t₁, S₁, r₁⟩ pl => ?_)
    obtain ⟨y, k, mm, rfl, ih, h1, h2⟩ := inH_meth ao.fa S₁.toSt0 r₁ hm
    refine method_own ao.fa (S₁.kin.keeps S₁.stays) ih h1 h2 (callWith_all i2 (ao.fa.meth k m f h1).2.2.2.2.1 ?_)
    refine hy.2 c es pos A B₁ ρ₁ s₁ ao i2 ar (st.step t₁ S₁) _ _ fun vs s₂ ⟨B₂, ρ₂, t₂, S₂, r₂⟩ => ⟨S₂.kin.keeps S₂.stays, ?_⟩
    exact wpAny_call (hc c.fr A B₂ ρ₂ s₂ (.ref y :: vs) ao.fa ar S₂ (Reps.cons (r₁.mono t₂.base t₂.pre) r₂) _ fun v s' ok => h _ _ (ok.pre (t₁.trans t₂)))
  exact ⟨ev, test_of rfl ev⟩
theorem x_meth2 {σ σ₁ σ₂ σ₃ : Store} {l : Loc} {x : E} {m f : Nat} {as : List E} {p : PV} {ps : List PV} (hx : Good P w K a d (.e x l σ) (.v p σ₁)) (hm : methK σ₁ p m = some (.call f)) (hy : Good P w K a d (.es as l σ₁) (.vs ps σ₂)) (hc : Good P w K a d (.call f (p :: ps) σ₂) (.exc σ₃)) :
    Good P w K a d (.e (.meth x m as) l σ) (.exc σ₃) := by
  intro c e A B ρ s ao hi ar st Q E h
  obtain ⟨o, ap, es, pos, i1, i2, i3, i4, i5⟩ := isE_meth hi
  refine meth_open i3 i2 i4 i5 ((hx c o A B ρ s ao i1 ar st).1 _ _ fun v s₁ ⟨B₁, ρ₁, t₁, S₁, r₁⟩ pl => ?_)
  obtain ⟨y, k, mm, rfl, ih, h1, h2⟩ := inH_meth ao.fa S₁.toSt0 r₁ hm
  refine method_own ao.fa (S₁.kin.keeps S₁.stays) ih h1 h2 (callWith_all i2 (ao.fa.meth k m f h1).2.2.2.2.1 ?_)
  refine hy.2 c es pos A B₁ ρ₁ s₁ ao i2 ar (st.step t₁ S₁) _ _ fun vs s₂ ⟨B₂, ρ₂, t₂, S₂, r₂⟩ => ⟨S₂.kin.keeps S₂.stays, ?_⟩
  exact wpAny_call (hc c.fr A B₂ ρ₂ s₂ (.ref y :: vs) ao.fa ar S₂ (Reps.cons (r₁.mono t₂.base t₂.pre) r₂) _ fun v s' ok => h _ _ (ExX.pre' (t₁.trans t₂) ok.x))

theorem FunFrames_but {h h' B : Heap} : ∀ {fr : List Env}, (∀ b, isFr fr b → h'.get? b = h.get? b) → h.FunFrames B fr → h'.FunFrames B fr
  | [], _, _ => trivial
  | env :: r, k, ⟨a1, ⟨L, o, hf, hn, ho, hd⟩, c⟩ => ⟨a1, ⟨L, o, hf, hn, (k L (isFr_head hf)).trans ho, hd⟩, FunFrames_but (fun b f => k b (isFr_tail f)) c⟩
set_option tactic.hygienic true in
/-- one thing of the store turns -/
theorem St.turn {fr : List Env} {B : Heap} {ρ : Rho} {σ : Store} {s s' : Shared} {i : Nat} {x dx y : Addr} {o : MO} (S : St a.cls K fr B ρ σ s.heap) (hi : ρ[i]? = some (x, dx)) (hy : y = x ∨ y = dx) (hs : ∀ b, b ≠ y → s'.heap.get? b = s.heap.get? b)
    (M : MOk a.cls B ρ s'.heap o (x, dx)) (ho : s'.os = s.os := by rfl) (hg : s'.gens = s.gens := by rfl) : Step (frs fr) (frs fr) B ρ s B ρ s' ∧ St a.cls K fr B ρ (σ.set i o) s'.heap := by
  have own : isOwn ρ y := ⟨_, List.mem_of_getElem? hi, hy⟩
  have nfr : ∀ b, isFr fr b → b ≠ y := fun b h e => S.off y own (e ▸ h)
  have nB : ∀ b o, B.get? b = some o → b ≠ y := fun b o h e => by rw [e, S.own y own] at h; cases h
  refine ⟨⟨⟨fun _ _ e => e, fun _ _ e => .inl e, List.prefix_refl _, fun _ h => .inl h, ho, hg⟩, fun b o e n f => (hs b fun q => n (q ▸ own)).trans e, fun b m f n => ?_⟩, ⟨⟨S.kin, fun b o e => (hs b (nB b o e)).trans (S.stays b o e), by simp [S.len], fun j o' p e1 e2 => ?_, S.own, S.dis⟩, S.off, ?_⟩⟩
  · obtain ⟨ob, es, ep, h1, r⟩ := n
    exact ⟨ob, es, ep, (hs b (nfr b f)).trans h1, r⟩
  · rw [List.getElem?_set] at e1
    split at e1
    · rename_i q
      subst q
      split at e1
      · cases e1
        rw [hi] at e2; cases e2
        exact M
      · cases e1
    · rename_i q
      have z := S.mo j o' p e1 e2
      have ap : Apart p (x, dx) := by
        have hj : j < ρ.length := (List.getElem?_eq_some_iff.mp e2).1
        have hi' : i < ρ.length := (List.getElem?_eq_some_iff.mp hi).1
        have ej : ρ[j] = p := (List.getElem?_eq_some_iff.mp e2).2
        have ei : ρ[i] = (x, dx) := (List.getElem?_eq_some_iff.mp hi).2
        rcases Nat.lt_or_gt_of_ne q with l | l
        · have := List.pairwise_iff_getElem.mp S.dis i j hi' hj l
          rw [ei, ej] at this
          exact ⟨Ne.symm this.1, Ne.symm this.2.2.1, Ne.symm this.2.1, Ne.symm this.2.2.2⟩
        · have := List.pairwise_iff_getElem.mp S.dis j i hj hi' l
          rw [ei, ej] at this
          exact this
      have n1 : p.1 ≠ y := by rcases hy with rfl | rfl <;> first | exact ap.1 | exact ap.2.1
      have n2 : p.2 ≠ y := by rcases hy with rfl | rfl <;> first | exact ap.2.2.1 | exact ap.2.2.2
      exact z.mono (fun _ _ e => e) (List.prefix_refl _) (fun ob e => (hs _ n1).trans e) fun _ m ⟨ob, es, ep, h1, r⟩ => ⟨ob, es, ep, (hs _ n2).trans h1, r⟩
  · refine FunFrames_but ?_ S.frames
    exact fun b f => hs b (nfr b f)
end
end Mine
end
section
open PySem PySem.W PyProof.Rows PySem.Calls
namespace Mine
section
variable {P : Program} {w : World} {K : Frag} {a : Adr} {d : Nat}

theorem dict_mapSeq (o : Obj) (f : Array V → Array V) : (o.mapSeq f).dict = o.dict := by
  obtain ⟨c, d, dt, s⟩ := o
  cases dt <;> rfl
theorem slots_mapSeq (o : Obj) (f : Array V → Array V) : (o.mapSeq f).slots = o.slots := by
  obtain ⟨c, d, dt, s⟩ := o
  cases dt <;> rfl
set_option tactic.hygienic true in
theorem methK_app {σ : Store} {p : PV} {m i : Nat} (h : methK σ p m = some (.app i)) : p = .ref i ∧ m = 14 ∧ ∃ l, σ[i]? = some (.lst l) := by
  cases p <;> try (simp [methK] at h; done)
  rename_i j
  simp only [methK] at h
  split at h
  · simp at h
  · rename_i l e
    split at h
    · cases h; rename_i q; exact ⟨rfl, q, l, e⟩
    · split at h <;> cases h
  · cases h
set_option tactic.hygienic true in
theorem methK_rev {σ : Store} {p : PV} {m i : Nat} (h : methK σ p m = some (.rev i)) : p = .ref i ∧ m = 28 ∧ ∃ l, σ[i]? = some (.lst l) := by
  cases p <;> try (simp [methK] at h; done)
  rename_i j
  simp only [methK] at h
  split at h
  · simp at h
  · rename_i l e
    split at h
    · cases h
    · split at h
      · cases h; rename_i q; exact ⟨rfl, q, l, e⟩
      · cases h
  · cases h
theorem nm14 : nm 14 = ("append" : Str) := by decide +kernel
theorem nm28 : nm 28 = ("reverse" : Str) := by decide +kernel

theorem lst_method {A : Around} {B : Heap} {ρ : Rho} {σ : Store} {s : Shared} {i : Nat} {l : List PV} {v : V} {n : Str} {id : String} {pl : Sem Bool} {Q : V × List V → Shared → Prop} {E : V → Shared → Prop} (S : St0 a.cls K B ρ σ s.heap) (e : σ[i]? = some (.lst l)) (r : RepV a.cls B ρ (.ref i) v) (slot : Slot "list" n id) (ty : typeOf (.builtin id) = pure (.type "method_descriptor"))
    (h : ∀ x, v = .ref x → ρ[i]? = some (x, x) → Q (.builtin id, [.ref x]) s) : wpAny (model P w) A (getMethod v n pl) Q E s := by
  obtain ⟨x, xs, rfl, hr, hl, e1, e2⟩ := list_ref S e r
  refine getMethod_builtin hl.typeIs F.plainAttrs_list slot ty (fun b hb => ?_) (h x rfl hr)
  cases hb
  exact list_dict S e hr

theorem turn_lst {fr : List Env} {B : Heap} {ρ : Rho} {σ : Store} {s : Shared} {i : Nat} {l l' : List PV} {x : Addr} {ys : Array V} {f : Array V → Array V} (S : St a.cls K fr B ρ σ s.heap) (e : σ[i]? = some (.lst l)) (hr : ρ[i]? = some (x, x))
    (h : ∀ xs, s.heap.IsList x xs → l.length = xs.size → (∀ (i : Nat) p v, l[i]? = some p → xs[i]? = some v → RepV a.cls B ρ p v) → l'.length = (f xs).size ∧ ∀ (i : Nat) p v, l'[i]? = some p → (f xs)[i]? = some v → RepV a.cls B ρ p v) :
    Step (frs fr) (frs fr) B ρ s B ρ { s with heap := s.heap.update x (Obj.mapSeq f) } ∧ St a.cls K fr B ρ (σ.set i (.lst l')) (s.heap.update x (Obj.mapSeq f)) := by
  obtain ⟨_, o, xs, n, e1, e2, ed, e3, e4, e5⟩ := S.mo i _ _ e hr
  obtain ⟨n', hd'⟩ := Obj.data_mapSeq e3 f
  obtain ⟨q1, q2⟩ := h xs ⟨o, e1, e2, n, e3⟩ e4 e5
  exact S.turn (s' := { s with heap := s.heap.update x (Obj.mapSeq f) }) hr (.inl rfl) (fun b hb => Heap.get?_update_other _ _ (Ne.symm hb))
    ⟨rfl, _, _, n', Heap.get?_update_self _ e1 (Obj.isFreed_of_seq hd'), (Obj.cls_mapSeq ..).trans e2, ⟨(dict_mapSeq ..).trans ed.1, (slots_mapSeq ..).trans ed.2⟩, hd', q1, q2⟩

theorem app_ok {A : Around} {s : Shared} {l : Addr} {items : Array V} {x : V} {Q : V → Shared → Prop} {E : V → Shared → Prop} (hl : s.heap.IsList l items) (hsz : items.size ≤ sizeLine)
    (h : Q .none { s with heap := s.heap.update l (Obj.mapSeq fun ys => ys.push x) }) : wpAny (model P w) A (call (.builtin "list.append") [.ref l, x]) Q E s := by
  obtain ⟨o, ho, hc, n, hd⟩ := id hl
  refine wpAny_call_entry slot_list_append hl.typeIs entry_list_append ?_ (args_list_append _ _)
  show wpAny _ _ (updateSeq l (·.push x) >>= fun _ => ret .none) _ _ s
  refine wpAny_bind ?_
  exact wpAny_updateSeq ho hd (wpAny_pure ⟨.none, rfl, h⟩)
theorem rev_ok {A : Around} {s : Shared} {l : Addr} {items : Array V} {Q : V → Shared → Prop} {E : V → Shared → Prop} (hl : s.heap.IsList l items) (hsz : items.size ≤ sizeLine)
    (h : Q .none { s with heap := s.heap.update l (Obj.mapSeq fun ys => ys.reverse) }) : wpAny (model P w) A (call (.builtin "list.reverse") [.ref l]) Q E s := by
  obtain ⟨o, ho, hc, n, hd⟩ := id hl
  refine wpAny_call_entry PySem.F.slot_list_reverse hl.typeIs PySem.F.entry_list_reverse ?_ (PySem.F.args_list_reverse_1 _)
  show wpAny _ _ (updateSeq l (·.reverse) >>= fun _ => ret .none) _ _ s
  refine wpAny_bind ?_
  have hz' : items.reverse.size ≤ sizeLine + 1 := by rw [Array.size_reverse]; lia
  exact wpAny_updateSeq ho hd (wpAny_pure ⟨.none, rfl, h⟩)

set_option tactic.hygienic true in
theorem g_app {σ σ₁ σ₂ σ₃ : Store} {l : Loc} {x : E} {m i : Nat} {as : List E} {p : PV} {ps : List PV} (hx : Good P w K a d (.e x l σ) (.v p σ₁)) (hm : methK σ₁ p m = some (.app i)) (hy : Good P w K a d (.es as l σ₁) (.vs ps σ₂)) (ho : lstOp σ₂ (.app i) ps = some σ₃) :
    Good P w K a d (.e (.meth x m as) l σ) (.v .none σ₃) := by
  intro c e A B ρ s ao hi ar st
  refine ⟨fun Q E h => ?_, fun b hb => by cases hb⟩
  obtain ⟨o, ap, es, pos, i1, i2, i3, i4, i5⟩ := isE_meth hi
  obtain ⟨rfl, rfl, l1, e1⟩ := methK_app hm
  obtain ⟨p', l2, rfl, e2, hz, rfl⟩ : ∃ p' l2, ps = [p'] ∧ σ₂[i]? = some (.lst l2) ∧ l2.length ≤ 65536 ∧ σ₃ = σ₂.set i (.lst (l2 ++ [p'])) := by
    unfold lstOp at ho
    split at ho
    · rename_i heq
      cases heq
      split at ho
      · split at ho
        · cases ho; rename_i a1 a2 a3; exact ⟨_, _, rfl, a2, a3, rfl⟩
        · cases ho
      · cases ho
    · rename_i heq; cases heq
    · cases ho
  refine meth_open i3 i2 i4 i5 ((hx c o A B ρ s ao i1 ar st).1 _ _ fun v s₁ ⟨B₁, ρ₁, t₁, S₁, r₁⟩ pl => ?_)
  rw [nm14]
  refine lst_method S₁.toSt0 e1 r₁ F.slot_list_append F.type_list_append fun y hy1 hy2 => ?_
  subst hy1
  refine callWith_builtin (args_plain i2) (evalArgs_all i2 ?_)
  refine hy.2 c es pos A B₁ ρ₁ s₁ ao i2 ar (st.step t₁ S₁) _ _ fun vs s₂ ⟨B₂, ρ₂, t₂, S₂, r₂⟩ => ?_
  obtain ⟨u, rfl, ru⟩ := reps1 r₂
  have hr2 := prefix_get t₂.pre hy2
  obtain ⟨y', xs, hy', hb, hl, q1, q2⟩ := list_ref S₂.toSt0 e2 (.ref hr2)
  cases hy'
  refine app_ok hl (by rw [sizeLine_eq]; lia) ?_
  obtain ⟨t₃, S₃⟩ := turn_lst (l' := l2 ++ [p']) (f := fun ys => ys.push u) (ys := xs) S₂ e2 hr2 fun xs _ g1 g2 => ⟨by simp [g1], fun j p v a1 a2 => by
    rcases Nat.lt_or_ge j l2.length with z | z
    · rw [List.getElem?_append_left z] at a1
      rw [Array.getElem?_push_lt (by lia)] at a2
      exact g2 j p v a1 (by rw [Array.getElem?_eq_getElem (by lia)]; exact a2)
    · rw [List.getElem?_append_right z] at a1
      have hj : j - l2.length = 0 := by
        rcases Nat.eq_zero_or_pos (j - l2.length) with q | q
        · exact q
        · rw [List.getElem?_eq_none (by rw [List.length_singleton]; exact q)] at a1; cases a1
      rw [hj] at a1
      have : j = xs.size := by lia
      subst this
      rw [Array.getElem?_push_size] at a2
      cases a1; cases a2
      exact ru⟩
  exact h _ _ ⟨B₂, ρ₂, (t₁.trans t₂).trans t₃, S₃, .none⟩
set_option tactic.hygienic true in
theorem g_rev {σ σ₁ σ₂ σ₃ : Store} {l : Loc} {x : E} {m i : Nat} {as : List E} {p : PV} {ps : List PV} (hx : Good P w K a d (.e x l σ) (.v p σ₁)) (hm : methK σ₁ p m = some (.rev i)) (hy : Good P w K a d (.es as l σ₁) (.vs ps σ₂)) (ho : lstOp σ₂ (.rev i) ps = some σ₃) :
    Good P w K a d (.e (.meth x m as) l σ) (.v .none σ₃) := by
  intro c e A B ρ s ao hi ar st
  refine ⟨fun Q E h => ?_, fun b hb => by cases hb⟩
  obtain ⟨o, ap, es, pos, i1, i2, i3, i4, i5⟩ := isE_meth hi
  obtain ⟨rfl, rfl, l1, e1⟩ := methK_rev hm
  obtain ⟨l2, rfl, e2, hz, rfl⟩ : ∃ l2, ps = [] ∧ σ₂[i]? = some (.lst l2) ∧ l2.length ≤ 65536 ∧ σ₃ = σ₂.set i (.lst l2.reverse) := by
    unfold lstOp at ho
    split at ho
    · rename_i heq; cases heq
    · rename_i heq
      cases heq
      split at ho
      · split at ho
        · cases ho; rename_i a1 a2 a3; exact ⟨_, rfl, a2, a3, rfl⟩
        · cases ho
      · cases ho
    · cases ho
  refine meth_open i3 i2 i4 i5 ((hx c o A B ρ s ao i1 ar st).1 _ _ fun v s₁ ⟨B₁, ρ₁, t₁, S₁, r₁⟩ pl => ?_)
  rw [nm28]
  refine lst_method S₁.toSt0 e1 r₁ F.slot_list_reverse F.type_list_reverse fun y hy1 hy2 => ?_
  subst hy1
  refine callWith_builtin (args_plain i2) (evalArgs_all i2 ?_)
  refine hy.2 c es pos A B₁ ρ₁ s₁ ao i2 ar (st.step t₁ S₁) _ _ fun vs s₂ ⟨B₂, ρ₂, t₂, S₂, r₂⟩ => ?_
  obtain rfl : vs = [] := List.length_eq_zero_iff.mp r₂.1.symm
  have hr2 := prefix_get t₂.pre hy2
  obtain ⟨y', xs, hy', hb, hl, q1, q2⟩ := list_ref S₂.toSt0 e2 (.ref hr2)
  cases hy'
  refine rev_ok hl (by rw [sizeLine_eq]; lia) ?_
  obtain ⟨t₃, S₃⟩ := turn_lst (l' := l2.reverse) (f := fun ys => ys.reverse) (ys := xs) S₂ e2 hr2 fun xs _ g1 g2 => ⟨by simp [g1], fun j p v a1 a2 => by
    have hj : j < l2.length := by have := (List.getElem?_eq_some_iff.mp a1).1; simpa using this
    rw [List.getElem?_reverse hj] at a1
    rw [← Array.getElem?_toList, Array.toList_reverse, List.getElem?_reverse (by simpa [← g1] using hj)] at a2
    refine g2 _ p v a1 ?_
    rw [← Array.getElem?_toList, g1]
    simpa using a2⟩
  exact h _ _ ⟨B₂, ρ₂, (t₁.trans t₂).trans t₃, S₃, .none⟩
end
end Mine
end
section
open PySem PySem.W PyProof.Rows PySem.Calls
set_option maxRecDepth 100000
namespace Mine
section
variable {P : Program} {w : World} {K : Frag} {a : Adr} {d : Nat}

theorem replL_append (c : Nat) (r : List Nat) : ∀ x y : List Nat, replL c r (x ++ y) = replL c r x ++ replL c r y
  | [], _ => rfl
  | k :: l, y => by
    have ih := replL_append c r l y
    show (if k == c then r ++ replL c r (l ++ y) else k :: replL c r (l ++ y)) = (if k == c then r ++ replL c r l else k :: replL c r l) ++ replL c r y
    rw [ih]
    split <;> simp
theorem replL_free (c : Nat) (r : List Nat) : ∀ x : List Nat, c ∉ x → replL c r x = x
  | [], _ => rfl
  | k :: l, h => by
    unfold replL
    have h1 : ¬ ((k == c) = true) := fun e => h (by rw [beq_iff_eq.mp e]; exact .head _)
    rw [if_neg h1, replL_free c r l fun m => h (.tail _ m)]
theorem replL_one (c : Nat) (r : List Nat) : replL c r [c] = r := by simp [replL]
theorem replL_join (c : Nat) (r : List Nat) : ∀ parts : List Str, (∀ p ∈ parts, c ∉ p.cps.toList) → replL c r (Str.join ⟨#[c]⟩ parts).cps.toList = (Str.join (Mine.st r) parts).cps.toList
  | [], _ => rfl
  | [p], h => replL_free c r _ (h p (List.mem_singleton.mpr rfl))
  | p :: q :: t, h => by
    have ih := replL_join c r (q :: t) fun a ha => h a (List.mem_cons_of_mem _ ha)
    show replL c r (p ++ ⟨#[c]⟩ ++ Str.join ⟨#[c]⟩ (q :: t)).cps.toList = (p ++ Mine.st r ++ Str.join (Mine.st r) (q :: t)).cps.toList
    simp only [Str.cps_append, Array.toList_append]
    rw [replL_append, replL_append, ih, replL_free c r _ (h p (List.mem_cons_self ..))]
    show p.cps.toList ++ replL c r [c] ++ _ = _
    rw [replL_one]
    simp [Mine.st]
theorem repl_st (c : Nat) (r l : List Nat) : Txt.replace (Mine.st l) (Mine.st [c]) (Mine.st r) = Mine.st (replL c r l) := by
  have e := StrLaws.replace_one (Mine.st l) (Mine.st r) c
  rw [show Mine.st [c] = ⟨#[c]⟩ from rfl, e]
  have h := replL_join c r (Txt.split (Mine.st l) ⟨#[c]⟩) (StrLaws.split_free (Mine.st l) c)
  rw [StrLaws.join_split] at h
  rw [show (Mine.st l).cps.toList = l from by simp [Mine.st]] at h
  rw [h]
  generalize Str.join (Mine.st r) (Txt.split (Mine.st l) ⟨#[c]⟩) = y
  show y = ⟨y.cps.toList.toArray⟩
  simp

theorem repl_ok {A : Around} {s : Shared} {c : Nat} {r l : List Nat} {t u v : Tok} {Q : V → Shared → Prop} {E : V → Shared → Prop} (hu : u ≠ 0) (hv : v ≠ 0) (huv : u ≠ v) (hne : [c] ≠ r) (hl : l.length ≤ 65536) (hr : r.length ≤ 14)
    (h : ∀ t' k, s.toks ≤ k → Q (.str (Mine.st (replL c r l)) t') { s with toks := k }) : wpAny (model P w) A (call (.builtin "str.replace") [.str (Mine.st l) t, .str (Mine.st [c]) u, .str (Mine.st r) v]) Q E s := by
  have hq : ∀ t' k, s.toks ≤ k → Q (.str (Txt.replace (Mine.st l) (Mine.st [c]) (Mine.st r)) t') { s with toks := k } := by rw [repl_st]; exact h
  have hyz : (Mine.st [c] == Mine.st r) = false := by rw [st_beq]; exact beq_eq_false_iff_ne.mpr hne
  have hb : (Mine.st l).length + ((Mine.st l).length + 1) * (Mine.st r).length ≤ 16777216 := by
    rw [st_length, st_length]
    have : (l.length + 1) * r.length ≤ (l.length + 1) * 14 := Nat.mul_le_mul_left _ hr
    lia
  generalize Mine.st l = x at *
  generalize Mine.st [c] = y at *
  generalize Mine.st r = z at *
  have e : (2 : Nat) ^ 24 = 16777216 := by decide
  have hl : Builtin.Str.tooLong (x.length + (Builtin.Str.occurrences x y 0 x.length (x.length + 1)).length * z.length) = false := by
    have h1 := StrLaws.occ_length_le x y 0 x.length (x.length + 1)
    have h2 : (Builtin.Str.occurrences x y 0 x.length (x.length + 1)).length * z.length ≤ (x.length + 1) * z.length := Nat.mul_le_mul_right _ h1
    unfold Builtin.Str.tooLong sizeLine
    exact decide_eq_false (by lia)
  refine call_gives F.slot_str_replace (typeIs_str _ _ _) F.entry_str_replace (F.args_str_replace_3 _ _ _)
    (gives_str_replace x y z t u v fun _ => ⟨by simp [hu, hv], by simp [huv], hyz, hl⟩) ?_
  have hq' := hq
  unfold Txt.replace at hq'
  cases hc : ((Builtin.Str.occurrences x y 0 x.length (x.length + 1)).isEmpty || (y.length == 0 && z.length == 0))
  · rw [hc] at hq'
    simp only [Bool.false_eq_true, if_false] at hq' ⊢
    exact ⟨fits_replaced y hb, hq' _ _ (Nat.le_succ _)⟩
  · rw [hc] at hq'
    simp only [if_true] at hq' ⊢
    exact hq' t s.toks (Nat.le_refl _)

theorem Same.trans {s s₁ s₂ : Shared} (x : Same s s₁) (y : Same s₁ s₂) : Same s s₂ := ⟨y.heap.trans x.heap, y.os.trans x.os, y.gens.trans x.gens⟩
noncomputable def TxtAt (s : Shared) (l : List Nat) (v : V) (s₁ : Shared) : Prop := ∃ t, v = .str (Mine.st l) t ∧ Same s s₁ ∧ 0 < s₁.toks
theorem rep1 {c : Act} {A : Around} {s : Shared} {o : XE} {ap pos p1 p2 : Pos} {k1 k2 : Nat} {c0 : Nat} {r l : List Nat} {E : V → Shared → Prop} (hs : notSuper o = true) (hl : (ap.endLine == pos.line) = true) (hne : [c0] ≠ r) (hz : l.length ≤ 65536) (hr : r.length ≤ 14)
    (h : wpAny (model P w) A (eval o c.env) (TxtAt s l) E s) :
    wpAny (model P w) A (eval (.Call (.Attribute o "replace" ap) [.Constant (.str (Mine.st [c0])) k1 p1, .Constant (.str (Mine.st r)) k2 p2] [] pos) c.env) (TxtAt s (replL c0 r l)) E s := by
  have hi : isEs c.S [.str [c0], .str r] [.Constant (.str (Mine.st [c0])) k1 p1, .Constant (.str (Mine.st r)) k2 p2] = true := isEs_of isE_of_str rfl (isEs_of isE_of_str rfl rfl)
  refine meth_open hs hi hl (by show 2 < 29; decide) (wpAny_mono h (fun v s₁ ⟨t, hv, hS, h0⟩ pl => ?_) fun _ _ e => e)
  subst hv
  refine getMethod_builtin (id := "str.replace") (typeIs_str _ _ _) F.plainAttrs_str F.slot_str_replace F.type_str_replace (fun _ e => nomatch e) ?_
  refine callWith_builtin (args_plain hi) (evalArgs_all hi ?_)
  refine args_cons (Constant_str ?_) rfl
  refine args_cons (Constant_str ?_) rfl
  refine args_nil ?_
  exact repl_ok (show s₁.toks ≠ 0 by lia) (show s₁.toks + 1 ≠ 0 by lia) (show s₁.toks ≠ s₁.toks + 1 by lia) hne hz hr fun t' k hk => ⟨t', rfl, hS.trans ⟨rfl, rfl, rfl⟩, by show 0 < k; have : s₁.toks + 1 + 1 ≤ k := hk; lia⟩

theorem replL_len (c : Nat) (r : List Nat) : ∀ x : List Nat, (replL c r x).length ≤ x.length * (r.length + 1)
  | [] => Nat.zero_le _
  | k :: l => by
    have ih := replL_len c r l
    unfold replL
    split
    · rw [List.length_append, List.length_cons, Nat.add_mul]; lia
    · rw [List.length_cons, List.length_cons, Nat.add_mul]; lia
theorem g_spaced {σ : Store} {l : Loc} {i : Nat} {x : List Nat} (hp : locAt l i = some (.str x)) (hz : x.length ≤ 4096) :
    Good P w K a d (.e (.spaced i) l σ) (.v (.str ([32, 32] ++ replL 41 [32, 41] (replL 40 [40, 32] (replL 32 [32, 9, 32] x)))) σ) := by
  intro c e A B ρ s ao hi ar st
  obtain ⟨k0, q0, r3, pos, hi1⟩ := isE_spaced hi
  clear hi
  obtain ⟨r2, ap3, ky3, py3, kz3, pz3, q3, hi2, h9⟩ := isRepl_inv hi1
  clear hi1
  obtain ⟨r1, ap2, ky2, py2, kz2, pz2, q2, hi3, h8⟩ := isRepl_inv hi2
  clear hi2
  obtain ⟨r0, ap1, ky1, py1, kz1, pz1, q1, hi4, h7⟩ := isRepl_inv hi3
  clear hi3
  obtain ⟨x0, xp, h1, h2⟩ := isLocX_inv hi4
  clear hi4
  have l1 := replL_len 32 [32, 9, 32] x
  have l2 := replL_len 40 [40, 32] (replL 32 [32, 9, 32] x)
  have l3 := replL_len 41 [32, 41] (replL 40 [40, 32] (replL 32 [32, 9, 32] x))
  simp only [List.length_cons, List.length_nil] at l1 l2 l3
  refine ⟨fun Q E h => ?_, fun b hb => by cases hb⟩
  refine wpAny_BinOp (Constant_str ?_)
  obtain ⟨h3, h4⟩ := lcl_is h2
  obtain ⟨m, n1, n2⟩ := st.2
  obtain ⟨y, v, w1, w2, w3⟩ := n2 i _ hp
  obtain rfl : x0 = y := by
    rw [show c.S.names = c.names from rfl, w1] at h1
    exact (Option.some.inj h1).symm
  obtain ⟨t, rfl⟩ := w3.str'
  have base : wpAny (model P w) A (eval (.Name x0 xp) c.env) (TxtAt { s with toks := s.toks + 1 } x) E { s with toks := s.toks + 1 } :=
    wpAny_Name (wpAny_loadName_local ao.kind h3 n1 w2 ⟨t, rfl, .r, Nat.succ_pos _⟩) h4
  refine wpAny_mono (rep1 (l := replL 40 [40, 32] (replL 32 [32, 9, 32] x)) rfl h9 (by decide) (by lia) (by decide) (rep1 (l := replL 32 [32, 9, 32] x) rfl h8 (by decide) (by lia) (by decide) (rep1 rfl h7 (by decide) (by lia) (by decide) base))) (fun v s₁ ⟨t', hv, hS, h0⟩ => ?_) fun _ _ e => e
  subst hv
  refine add_str (fun t' tk => h _ _ ?_) (by rw [st_length, st_length, sizeLine_eq]; simp only [List.length_cons, List.length_nil]; lia)
  rw [← st_append]
  exact okE_same (.refl ..) st.1 (.str ..) ⟨hS.heap, hS.os, hS.gens⟩
end
end Mine
end
section
open PySem PySem.W PyProof.Rows PySem.Calls
namespace Mine
section
variable {P : Program} {w : World} {K : Frag} {a : Adr} {d : Nat}

theorem FunFrames_upd {h h' B : Heap} : ∀ {fr : List Env}, (∀ b, isFr fr b → ∃ o', h'.get? b = some o' ∧ ∀ vs, o'.data ≠ .fields vs) → h.FunFrames B fr → h'.FunFrames B fr
  | [], _, _ => trivial
  | env :: r, k, ⟨a1, ⟨L, o, hf, hn, ho, hd⟩, c⟩ => let ⟨o', q1, q2⟩ := k L (isFr_head hf); ⟨a1, ⟨L, o', hf, hn, q1, q2⟩, FunFrames_upd (fun b f => k b (isFr_tail f)) c⟩

theorem tail_sub (c : Act) : ∀ b, b ∈ frs c.fr.tail → b ∈ frs c.fr := fun b hb => by rw [Act.tail] at hb; rw [Act.frs_eq]; exact .tail _ hb
theorem Step.low {c : Act} {B B' : Heap} {ρ ρ' : Rho} {s s' : Shared} (t : Step (frs c.fr) (frs c.fr) B ρ s B' ρ' s') : Step (frs c.fr) (frs c.fr.tail) B ρ s B' ρ' s' := t.weak (fun _ h => h) (tail_sub c)

set_option tactic.hygienic true in
theorem locAt_set {l : Loc} {i j : Nat} {p q : PV} (h : locAt (l.set i (some p)) j = some q) : (j = i ∧ q = p) ∨ (j ≠ i ∧ locAt l j = some q) := by
  unfold locAt at *
  rw [List.getElem?_set] at h
  split at h
  · rename_i e
    split at h
    · cases h; exact .inl ⟨e.symm, rfl⟩
    · cases h
  · rename_i e; exact .inr ⟨fun q => e q.symm, h⟩

/-- a local takes its value -/
theorem store_ok {c : Act} {A : Around} {B : Heap} {ρ : Rho} {σ : Store} {l : Loc} {s : Shared} {x : Str} {v : V} {p : PV} {i : Nat} {Q : Unit → Shared → Prop} {E : V → Shared → Prop} (ao : ActOk K a c) (T : St1 K a c B ρ σ l s) (hx : c.names[i]? = some x) (hl : c.S.lcl x = true) (r : RepV a.cls B ρ p v)
    (h : ∀ s', St1 K a c B ρ σ (l.set i (some p)) s' → Step (frs c.fr) (frs c.fr.tail) B ρ s B ρ s' → Q () s') : wpAny (model P w) A (storeName c.env x v) Q E s := by
  obtain ⟨S, m, hn, hm⟩ := T
  obtain ⟨h3, h4⟩ := lcl_is hl
  have hk : c.sc.kind = .function := ao.kind
  refine wpAny_storeName_local h3 hn (fun h' hn' hs => ?_) (by show (c.sc.kind == .class || (c.sc.kind == .module && _)) = false; rw [hk]; rfl)
  have LF : isFr c.fr c.L := c.mem
  have nB : ∀ b o, B.get? b = some o → b ≠ c.L := fun b o e q => by rw [q, (S.frames.mem LF).1] at e; cases e
  have nO : ∀ b, isOwn ρ b → b ≠ c.L := fun b o q => S.off b o (q ▸ LF)
  have S' : St a.cls K c.fr B ρ σ h' := by
    refine ⟨⟨S.kin, fun b o e => (hs.2 b (nB b o e)).trans (S.stays b o e), S.len, fun j o p e1 e2 => ?_, S.own, S.dis⟩, S.off, FunFrames_upd (fun b f => ?_) S.frames⟩
    · have n1 : p.1 ≠ c.L := nO _ ⟨p, List.mem_of_getElem? e2, .inl rfl⟩
      have n2 : p.2 ≠ c.L := nO _ ⟨p, List.mem_of_getElem? e2, .inr rfl⟩
      exact (S.mo j o p e1 e2).mono (fun _ _ e => e) (List.prefix_refl _) (fun ob e => (hs.2 _ n1).trans e) fun _ m ⟨ob, es, ep, h1, r⟩ => ⟨ob, es, ep, (hs.2 _ n2).trans h1, r⟩
    · by_cases q : b = c.L
      · subst q
        obtain ⟨o, es, ep, e1, e2, _⟩ := hn'
        exact ⟨o, e1, fun vs z => by rw [e2] at z; cases z⟩
      · obtain ⟨o, e, z⟩ := (S.frames.mem f).2
        exact ⟨o, (hs.2 b q).trans e, z⟩
  refine h { s with heap := h', toks := s.toks + 1 } ⟨S', _, hn', fun j q e => ?_⟩ ⟨⟨fun _ _ e => e, fun _ _ e => .inl e, List.prefix_refl _, fun _ h => .inl h, rfl, rfl⟩, fun b o e n f => (hs.2 b fun q => f (q ▸ LF)).trans e, fun b m f ⟨ob, es, ep, h1, r⟩ => ⟨ob, es, ep, (hs.2 b fun (q : b = c.L) => ao.apart (by rw [← q]; exact f)).trans h1, r⟩⟩
  rcases locAt_set e with ⟨rfl, rfl⟩ | ⟨ne, e'⟩
  · exact ⟨x, v, hx, by simp, r⟩
  · obtain ⟨y, u, q1, q2, q3⟩ := hm j q e'
    refine ⟨y, u, q1, ?_, q3⟩
    have : y ≠ x := fun z => by
      subst z
      have h1 : j < c.names.length := (List.getElem?_eq_some_iff.mp q1).1
      have h2 : i < c.names.length := (List.getElem?_eq_some_iff.mp hx).1
      have e1 := (List.getElem?_eq_some_iff.mp q1).2
      have e2 := (List.getElem?_eq_some_iff.mp hx).2
      rcases Nat.lt_or_gt_of_ne ne with z | z
      · exact List.pairwise_iff_getElem.mp ao.nodup j i h1 h2 z (e1.trans e2.symm)
      · exact List.pairwise_iff_getElem.mp ao.nodup i j h2 h1 z (e2.trans e1.symm)
    rw [if_neg this]; exact q2

theorem swaps_plain {v : XE} {t : Option XE} {n : Nat} {env : Env} (h : plainX v = true) : swapsWith v t n env = pure false := by
  cases v <;> first | rfl | exact absurd h Bool.false_ne_true
theorem swaps_sole {v : XE} {t : XE} {n : Nat} {env : Env} (h : plainX v = true) : swapsWithSole [t] v n env = pure false := by
  unfold swapsWithSole
  exact swaps_plain h
theorem isCall_plain {v : XE} (h : isCall v = true) : plainX v = true := by
  cases v <;> first | rfl | exact absurd h Bool.false_ne_true

theorem s_asg {σ σ₁ : Store} {l : Loc} {i : Nat} {x : E} {p : PV} (hx : Good P w K a d (.e x l σ) (.v p σ₁)) : Good P w K a d (.s (.asg i x) l σ) (.fl .next (l.set i (some p)) σ₁) := by
  intro c e A B ρ s ao hi ar st Q E h
  obtain ⟨n, xp, v, pos, i1, i2, i3, i4⟩ := isS_asg hi
  refine wpAny_Assign_Name ((hx c v A B ρ s ao i4 ar st).1 _ _ fun u s₁ ⟨B₁, ρ₁, t₁, S₁, r₁⟩ => ?_) (swaps_plain i3)
  refine store_ok ao (st.step t₁ S₁) i1 i2 r₁ fun s' T t => h _ _ ⟨B₁, ρ₁, t₁.low.trans t, T.1, fun _ => T.2, trivial⟩
theorem s_asgx {σ σ₁ : Store} {l : Loc} {i : Nat} {x : E} (hx : Good P w K a d (.e x l σ) (.exc σ₁)) : Good P w K a d (.s (.asg i x) l σ) (.exc σ₁) := by
  intro c e A B ρ s ao hi ar st Q E h
  obtain ⟨n, xp, v, pos, i1, i2, i3, i4⟩ := isS_asg hi
  exact wpAny_Assign_Name (hx c v A B ρ s ao i4 ar st _ _ h) (swaps_plain i3)

set_option tactic.hygienic true in
theorem s_asg2 {σ σ₁ : Store} {l : Loc} {i j : Nat} {x : E} {p q : PV} (hx : Good P w K a d (.e x l σ) (.v (.tup [p, q]) σ₁)) : Good P w K a d (.s (.asg2 i j x) l σ) (.fl .next ((l.set i (some p)).set j (some q)) σ₁) := by
  intro c e A B ρ s ao hi ar st Q E h
  obtain ⟨n, xp, n', xp', k, tp, v, pos, h1, h2, h3, h4, h5, h6, h7⟩ := isS_asg2 hi
  refine Assign_Tuple ((hx c v A B ρ s ao h7 ar st).1 _ _ fun u s₁ ⟨B₁, ρ₁, t₁, S₁, r₁⟩ => ?_) (swaps_sole (isCall_plain h6)) (by cases v <;> first | rfl | exact absurd h6 Bool.false_ne_true)
  cases r₁ with | tup g1 g2 g3 g4 g5 =>
  rename_i xs b o m _
  obtain ⟨v1, v2, hxs⟩ : ∃ v1 v2, xs.toList = [v1, v2] := by
    have : xs.toList.length = 2 := by simpa using g4.symm
    match xs.toList, this with
    | [v1, v2], _ => exact ⟨v1, v2, rfl⟩
  have e0 : xs[0]? = some v1 := by rw [← Array.getElem?_toList, hxs]; rfl
  have e1 : xs[1]? = some v2 := by rw [← Array.getElem?_toList, hxs]; rfl
  refine wpAny_assign_Tuple ar.handled ⟨o, S₁.stays _ _ g1, g2, m, g3⟩ (by rw [← Array.length_toList, hxs]; rfl) rfl fun h' hk => ?_
  rw [hxs]
  have k : ∀ b o, s₁.heap.get? b = some o → h'.get? b = some o := fun b o e => hk b o (Nat.ne_of_lt (Heap.lt_size e)) e
  have T₁ := st.step t₁ S₁
  have T₂ : St1 K a c B₁ ρ₁ σ₁ l { s₁ with heap := h' } := T₁.step (.of_keeps k) (S₁.keeps k)
  refine assignInOrder_cons ?_
  show wpAny _ _ (assign (.Name n xp) c.env v1) _ _ _
  rw [arm_assign_Name]
  refine wpAny_bind (wpAny_standAt (wpAny_bindName (store_ok ao T₂ h1 h2 (g5 0 _ _ rfl e0) fun s₃ T₃ t₃ => ?_)))
  refine assignInOrder_cons ?_
  show wpAny _ _ (assign (.Name n' xp') c.env v2) _ _ _
  rw [arm_assign_Name]
  refine wpAny_bind (wpAny_standAt (wpAny_bindName (store_ok ao T₃ h3 h4 (g5 1 _ _ rfl e1) fun s₄ T₄ t₄ => ?_)))
  exact assignInOrder_nil (h _ _ ⟨B₁, ρ₁, ((t₁.low.trans (.of_keeps k)).trans t₃).trans t₄, T₄.1, fun _ => T₄.2, trivial⟩)

theorem not_inter {c : Act} (ao : ActOk K a c) : interactive c.env = false := by
  have : c.env.scope.kind = .function := ao.kind
  unfold interactive
  rw [this]; rfl
theorem s_expr {σ σ₁ : Store} {l : Loc} {x : E} {p : PV} (hx : Good P w K a d (.e x l σ) (.v p σ₁)) : Good P w K a d (.s (.expr x) l σ) (.fl .next l σ₁) := by
  intro c e A B ρ s ao hi ar st Q E h
  obtain ⟨v, pos, i1, i2⟩ := isS_expr hi
  exact wpAny_Expr_any ((hx c v A B ρ s ao i1 ar st).1 _ _ fun u s₁ ⟨B₁, ρ₁, t₁, S₁, r₁⟩ => h _ _ ⟨B₁, ρ₁, t₁.low, S₁, fun _ => (st.step t₁ S₁).2, trivial⟩) (not_inter ao) (swaps_plain (isCall_plain i2))
theorem s_exprx {σ σ₁ : Store} {l : Loc} {x : E} (hx : Good P w K a d (.e x l σ) (.exc σ₁)) : Good P w K a d (.s (.expr x) l σ) (.exc σ₁) := by
  intro c e A B ρ s ao hi ar st Q E h
  obtain ⟨v, pos, i1, i2⟩ := isS_expr hi
  exact wpAny_Expr_any (hx c v A B ρ s ao i1 ar st _ _ h) (not_inter ao) (swaps_plain (isCall_plain i2))

theorem s_ret {σ σ₁ : Store} {l : Loc} {x : E} {p : PV} (hx : Good P w K a d (.e x l σ) (.v p σ₁)) : Good P w K a d (.s (.ret x) l σ) (.fl (.ret p) l σ₁) := by
  intro c e A B ρ s ao hi ar st Q E h
  obtain ⟨v, pos, i1⟩ := isS_ret hi
  exact wpAny_Return_some ((hx c v A B ρ s ao i1 ar st).1 _ _ fun u s₁ ⟨B₁, ρ₁, t₁, S₁, r₁⟩ => h _ _ ⟨B₁, ρ₁, t₁.low, S₁, fun _ => (st.step t₁ S₁).2, r₁⟩)
theorem s_retx {σ σ₁ : Store} {l : Loc} {x : E} (hx : Good P w K a d (.e x l σ) (.exc σ₁)) : Good P w K a d (.s (.ret x) l σ) (.exc σ₁) := by
  intro c e A B ρ s ao hi ar st Q E h
  obtain ⟨v, pos, i1⟩ := isS_ret hi
  exact wpAny_Return_some (hx c v A B ρ s ao i1 ar st _ _ h)

theorem OkS.pre {c : Act} {xs : List Addr} {B B₁ : Heap} {ρ ρ₁ : Rho} {s s₁ s₂ : Shared} {f : Flow} {l : Loc} {σ : Store} {g : PySem.Flow} (t : Step xs (frs c.fr.tail) B ρ s B₁ ρ₁ s₁) (x : OkS K a c.fr c.names c.L xs B₁ ρ₁ s₁ f l σ g s₂) : OkS K a c.fr c.names c.L xs B ρ s f l σ g s₂ :=
  let ⟨B₂, ρ₂, q1, q2, q3, q4⟩ := x; ⟨B₂, ρ₂, t.trans q1, q2, q3, q4⟩
theorem s_ife {σ σ₁ σ₂ : Store} {l l' : Loc} {t : E} {x y : List S} {b : Bool} {f : Flow} (ht : Good P w K a d (.e t l σ) (.v (.bool b) σ₁)) (hb : Good P w K a d (.ss (if b then x else y) l σ₁) (.fl f l' σ₂)) : Good P w K a d (.s (.ife t x y) l σ) (.fl f l' σ₂) := by
  intro c e A B ρ s ao hi ar st Q E h
  obtain ⟨t', x', y', pos, i1, i2, i3⟩ := isS_ife hi
  refine wpAny_If ((ht c t' A B ρ s ao i1 ar st).2 b rfl _ _ fun s₁ ⟨B₁, ρ₁, t₁, S₁⟩ => ?_)
  cases b
  · exact hb c y' A B₁ ρ₁ s₁ ao i3 ar (st.step t₁ S₁) _ _ fun g s' ok => h _ _ (ok.pre t₁.low)
  · exact hb c x' A B₁ ρ₁ s₁ ao i2 ar (st.step t₁ S₁) _ _ fun g s' ok => h _ _ (ok.pre t₁.low)
theorem s_ifex {σ σ₁ σ₂ : Store} {l : Loc} {t : E} {x y : List S} {b : Bool} (ht : Good P w K a d (.e t l σ) (.v (.bool b) σ₁)) (hb : Good P w K a d (.ss (if b then x else y) l σ₁) (.exc σ₂)) : Good P w K a d (.s (.ife t x y) l σ) (.exc σ₂) := by
  intro c e A B ρ s ao hi ar st Q E h
  obtain ⟨t', x', y', pos, i1, i2, i3⟩ := isS_ife hi
  refine wpAny_If ((ht c t' A B ρ s ao i1 ar st).2 b rfl _ _ fun s₁ ⟨B₁, ρ₁, t₁, S₁⟩ => ?_)
  cases b
  · exact hb c y' A B₁ ρ₁ s₁ ao i3 ar (st.step t₁ S₁) _ _ fun v s' ok => h _ _ (ok.pre' t₁)
  · exact hb c x' A B₁ ρ₁ s₁ ao i2 ar (st.step t₁ S₁) _ _ fun v s' ok => h _ _ (ok.pre' t₁)

theorem ss_nil {σ : Store} {l : Loc} : Good P w K a d (.ss [] l σ) (.fl .next l σ) := by
  intro c e A B ρ s ao hi ar st Q E h
  obtain rfl := isSs_nil hi
  exact wpAny_execs_nil (h _ _ ⟨B, ρ, .refl .., st.1, fun _ => st.2, trivial⟩)
theorem ss_cons {σ σ₁ σ₂ : Store} {l l₁ l₂ : Loc} {x : S} {r : List S} {f : Flow} (hx : Good P w K a d (.s x l σ) (.fl .next l₁ σ₁)) (hr : Good P w K a d (.ss r l₁ σ₁) (.fl f l₂ σ₂)) : Good P w K a d (.ss (x :: r) l σ) (.fl f l₂ σ₂) := by
  intro c e A B ρ s ao hi ar st Q E h
  obtain ⟨y, q, i1, i2⟩ := isSs_cons hi
  refine wpAny_execs_cons (hx c y A B ρ s ao i1 ar st _ _ fun g s₁ ⟨B₁, ρ₁, t₁, S₁, L₁, f₁⟩ => ?_)
  cases g <;> first | exact f₁.elim | skip
  exact hr c q A B₁ ρ₁ s₁ ao i2 ar ⟨S₁, L₁ rfl⟩ _ _ fun g s' ok => h _ _ (ok.pre t₁)
theorem ss_consx {σ σ₁ σ₂ : Store} {l l₁ : Loc} {x : S} {r : List S} (hx : Good P w K a d (.s x l σ) (.fl .next l₁ σ₁)) (hr : Good P w K a d (.ss r l₁ σ₁) (.exc σ₂)) : Good P w K a d (.ss (x :: r) l σ) (.exc σ₂) := by
  intro c e A B ρ s ao hi ar st Q E h
  obtain ⟨y, q, i1, i2⟩ := isSs_cons hi
  refine wpAny_execs_cons (hx c y A B ρ s ao i1 ar st _ _ fun g s₁ ⟨B₁, ρ₁, t₁, S₁, L₁, f₁⟩ => ?_)
  cases g <;> first | exact f₁.elim | skip
  exact hr c q A B₁ ρ₁ s₁ ao i2 ar ⟨S₁, L₁ rfl⟩ _ _ fun v s' ok => h _ _ (ok.pre'' t₁)
theorem ss_ret {σ σ₁ : Store} {l l₁ : Loc} {x : S} {r : List S} {p : PV} (hx : Good P w K a d (.s x l σ) (.fl (.ret p) l₁ σ₁)) : Good P w K a d (.ss (x :: r) l σ) (.fl (.ret p) l₁ σ₁) := by
  intro c e A B ρ s ao hi ar st Q E h
  obtain ⟨y, q, i1, i2⟩ := isSs_cons hi
  refine wpAny_execs_cons (hx c y A B ρ s ao i1 ar st _ _ fun g s₁ ok => ?_)
  have := ok
  obtain ⟨B₁, ρ₁, t₁, S₁, L₁, f₁⟩ := this
  cases g <;> first | exact f₁.elim | exact h _ _ ok
theorem ss_exc {σ σ₁ : Store} {l : Loc} {x : S} {r : List S} (hx : Good P w K a d (.s x l σ) (.exc σ₁)) : Good P w K a d (.ss (x :: r) l σ) (.exc σ₁) := by
  intro c e A B ρ s ao hi ar st Q E h
  obtain ⟨y, q, i1, i2⟩ := isSs_cons hi
  exact wpAny_execs_cons (hx c y A B ρ s ao i1 ar st _ _ h)
end
end Mine
end
section
open PySem PySem.W PyProof.Rows PySem.Calls
namespace Mine
section
variable {P : Program} {w : World} {K : Frag} {a : Adr} {d : Nat}

theorem list_obj {B h : Heap} {ρ : Rho} {σ : Store} {i : Nat} {l : List PV} {x y : Addr} (S : St0 a.cls K B ρ σ h) (e : σ[i]? = some (.lst l)) (r : ρ[i]? = some (x, y)) : ∃ xs n, h.get? x = some (listOf xs n) ∧ l.length = xs.size := by
  obtain ⟨rfl, o, xs, n, e1, e2, ed, e3, e4, e5⟩ := S.mo i _ _ e r
  refine ⟨xs, n, ?_, e4⟩
  obtain ⟨oc, od, oda, os⟩ := o
  dsimp only at e2 ed e3
  obtain ⟨ed1, ed2⟩ := ed
  subst e2; subst ed1; subst ed2; subst e3
  exact e1

set_option tactic.hygienic true in
theorem setitemV_is {σ σ' : Store} {p q r : PV} (h : setitemV σ p q r = some σ') : ∃ j n L, p = .ref j ∧ q = .int n ∧ σ[j]? = some (.lst L) ∧ 0 ≤ n ∧ n < 1073741824 ∧ n < (L.length : Int) ∧ σ' = σ.set j (.lst (L.set n.toNat r)) := by
  unfold setitemV at h
  split at h
  · rename_i j n
    split at h
    · rename_i L e
      split at h
      · rename_i hb
        cases h
        exact ⟨j, n, L, rfl, rfl, e, hb.1, hb.2.1, hb.2.2, rfl⟩
      · cases h
    · cases h
  · cases h
set_option tactic.hygienic true in
theorem s_setitem {σ σ₁ σ₂ σ₃ σ₄ : Store} {l : Loc} {o i x : E} {p q r : PV} (hx : Good P w K a d (.e x l σ) (.v r σ₁)) (ho : Good P w K a d (.e o l σ₁) (.v p σ₂)) (hk : Good P w K a d (.e i l σ₂) (.v q σ₃)) (hs : setitemV σ₃ p q r = some σ₄) :
    Good P w K a d (.s (.setitem o i x) l σ) (.fl .next l σ₄) := by
  intro c e A B ρ s ao hi ar st Q E h
  obtain ⟨t, k, tp, v, pos, h1, h2, h3, h4, h5⟩ := isS_setitem hi
  refine wpAny_Assign_Subscript ((hx c v A B ρ s ao h5 ar st).1 _ _ fun u s₁ ⟨B₁, ρ₁, t₁, S₁, r₁⟩ => ?_) (swaps_plain h4)
  refine (ho c t A B₁ ρ₁ s₁ ao h1 ar (st.step t₁ S₁)).1 _ _ fun y s₂ ⟨B₂, ρ₂, t₂, S₂, r₂⟩ => ?_
  have T₂ := (st.step t₁ S₁).step t₂ S₂
  refine (hk c k A B₂ ρ₂ s₂ ao h2 ar T₂).1 _ _ fun z s₃ ⟨B₃, ρ₃, t₃, S₃, r₃⟩ => ?_
  have T₃ := T₂.step t₃ S₃
  obtain ⟨j, n, L, rfl, rfl, e, b1, b2, b3, rfl⟩ := setitemV_is hs
  obtain ⟨tk, rfl⟩ := r₃.int'
  have r₂' := r₂.mono t₃.base t₃.pre
  obtain ⟨y', xs, rfl, hr, hl, q1, q2⟩ := list_ref S₃.toSt0 e r₂'
  obtain ⟨xs', n', ho', hl'⟩ := list_obj S₃.toSt0 e hr
  have ru := r₁.mono (fun b o e => t₃.base b o (t₂.base b o e)) (t₂.pre.trans t₃.pre)
  refine ki_setAt ho' b1 (by lia) (by lia) ?_
  obtain ⟨t₄, S₄⟩ := turn_lst (l' := L.set n.toNat r) (f := fun ys => ys.setIfInBounds n.toNat u) (ys := xs) S₃ e hr fun xs _ g1 g2 => ⟨by simp [g1], fun m p v a1 a2 => by
    rw [List.getElem?_set] at a1
    rw [Array.getElem?_setIfInBounds] at a2
    split at a1
    · rename_i em
      rw [if_pos em] at a2
      split at a1
      · split at a2
        · cases a1; cases a2; exact ru
        · cases a2
      · cases a1
    · rename_i em
      rw [if_neg em] at a2
      exact g2 m p v a1 a2⟩
  have t := ((t₁.trans t₂).trans t₃).trans t₄
  exact h _ _ ⟨B₃, ρ₃, t.low, S₄, fun _ => (st.step t S₄).2, trivial⟩

theorem names_apart : ∀ c, c < 9 → ∀ f ∈ fieldsOf c, ∀ g ∈ fieldsOf c, f ≠ g → nm f ≠ nm g := by decide +kernel
theorem setF_lookup (b : Nat) (v : PV) (g : Nat) : ∀ fs : List (Nat × PV), (setF b v fs).lookup g = if g = b then some v else fs.lookup g
  | [] => by
    show List.lookup g [(b, v)] = _
    rw [List.lookup_cons]
    by_cases e : g = b
    · subst e; simp
    · rw [show (g == b) = false from beq_eq_false_iff_ne.mpr e, if_neg e]
  | (k, u) :: r => by
    have ih := setF_lookup b v g r
    unfold setF
    by_cases e : b = k
    · subst e
      rw [if_pos (by simp)]
      rw [List.lookup_cons, List.lookup_cons]
      by_cases z : g = b
      · subst z; simp
      · rw [show (g == b) = false from beq_eq_false_iff_ne.mpr z, if_neg z]
    · rw [if_neg (by simpa using e)]
      rw [List.lookup_cons, List.lookup_cons, ih]
      by_cases z : g = k
      · subst z
        have : ¬ (g = b) := fun q => e q.symm
        simp [this]
      · rw [show (g == k) = false from beq_eq_false_iff_ne.mpr z]

/-- a name takes its value, counted -/
theorem nsSetN {M : Model} {A : Around} {s : Shared} {b : Addr} {k : Nat} {m : Str → Option V} {n : Str} {v : V} {Q : Unit → Shared → Prop} {E : V → Shared → Prop} (hn : NsN s.heap b k m)
    (h : ∀ h', NsN h' b (if (m n).isSome then k else k + 1) (fun y => if y = n then some v else m y) → Heap.SameBut b s.heap h' → Q () { s with heap := h', toks := s.toks + 1 }) : wpAny M A (nsSet b n v) Q E s := by
  obtain ⟨o, es, ep, ho, hd, hk, hm, hz⟩ := hn
  unfold nsSet
  refine wpAny_bind (wpAny_bind (wpAny_askSetting (wpAny_pure (wpAny_bind (wpAny_mkText (wpAny_bind (wpAny_loadPart ho ?_)))))))
  have hany : es.any (·.refKey) = false := by
    rw [Array.any_eq_false']; intro e he; obtain ⟨n, t, h⟩ := hk e he; simp [DictEntry.refKey, h]
  rw [hd]
  dsimp only
  rw [aRefKeyMayBeTheName_at, hany, Bool.and_false]
  refine wpAny_updatePart ho (h _ ?_ (Heap.SameBut.update ..))
  obtain ⟨c, d, dt, sl⟩ := o
  dsimp only at hd
  subst hd
  cases hi : es.findIdx? (·.key.isStr n) with
  | some i =>
    have some_ : (m n).isSome = true := by
      rw [← hm n]
      have := findBy_modify (fun n v => v.isStr n) Value.isStr_inj es n n v i hi
      rw [if_pos rfl] at this
      unfold nsFind findBy
      obtain ⟨hlt, hp, _⟩ := Array.findIdx?_eq_some_iff_getElem.mp hi
      cases q : es.find? (fun e => e.key.isStr n) with
      | some e => rfl
      | none => exact absurd hp (Array.find?_eq_none.mp q _ (Array.getElem_mem hlt))
    rw [some_, if_pos rfl]
    refine ⟨_, _, ep, Heap.get?_update_self _ ho (by simp only [Obj.putName_eq, Obj.putNameByArray, hi]; rfl), by simp only [Obj.putName_eq, Obj.putNameByArray, hi]; rfl, hk.modify _ _, fun x => ?_, by rw [Array.size_modify]; exact hz⟩
    show _ = if x = n then some v else m x
    rw [← hm]; exact findBy_modify (fun n v => v.isStr n) Value.isStr_inj es n x v i hi
  | none =>
    refine ⟨_, _, ep + 1, Heap.get?_update_self _ ho (by simp only [Obj.putName_eq, Obj.putNameByArray, hi]; rfl), by simp only [Obj.putName_eq, Obj.putNameByArray, hi]; rfl, hk.push _ _ _ _, fun x => ?_, ?_⟩
    · show _ = if x = n then some v else m x
      rw [← hm]
      exact findBy_push (fun n v => v.isStr n) es n x _ _ v (fun y => by
        show (n == y) = decide (y = n)
        by_cases h : y = n
        · subst h; simp
        · have : ¬ n = y := fun e => h e.symm
          simp [h, this]) hi
    · have : (m n).isSome = false := by
        rw [← hm n]
        unfold nsFind findBy
        cases q : es.find? (fun e => e.key.isStr n) with
        | none => rfl
        | some e =>
          have h1 := Array.find?_some q
          have h2 := Array.mem_of_find?_eq_some q
          exact absurd h1 (by rw [Array.findIdx?_eq_none_iff.mp hi e h2]; exact Bool.false_ne_true)
      rw [this, if_neg Bool.false_ne_true, Array.size_push]
      lia

/-- a field of an own object takes its value -/
theorem setAttr_ok {A : Around} {s : Shared} {x dx : Addr} {ox : Obj} {n : Str} {m : Str → Option V} {v : V} {c k : Nat} {Q : Unit → Shared → Prop} {E : V → Shared → Prop} (fa : Fa K a) (X : K.In s.heap) (c9 : c < 9) (hx : s.heap.get? x = some ox) (hc : ox.cls = .ref (a.cls c)) (hd : ox.dict = some dx) (hp : ox.data = .plain) (hn : NsN s.heap dx k m) (hk : k < 1000) (ht : takerIn K (a.cls c) n = some none)
    (h : ∀ h', NsN h' dx (if (m n).isSome then k else k + 1) (fun y => if y = n then some v else m y) → Heap.SameBut dx s.heap h' → ∀ tk, Q () { s with heap := h', toks := tk }) : wpAny (model P w) A (setAttr (.ref x) n v) Q E s := by
  obtain ⟨h1, h2⟩ := fa.sa c c9
  obtain ⟨od, l1, l2⟩ := lookIn_ns hn.ns n
  have I : InstAt s.heap x ox (a.cls c) (some od) := ⟨hx, hc, by unfold notCls; rw [hp], by rw [hd]; exact l1⟩
  refine set_plain X I h1 ?_
  refine osa_open (s := { s with toks := s.toks + 1 }) X I h2 ht fun b => ?_
  obtain ⟨cd, hcd, hd'⟩ := any_some (fa.hasDict c c9)
  obtain ⟨oc, odi, oda, osl⟩ := ox
  dsimp only at hc hd
  subst hc; subst hd
  have L : Looks (model P w) s.heap (classData (a.cls c)) cd := looks_clsIn X hcd
  refine wpAny_bind (wpAny_pure (wpAny_bind (wpAny_bind (wpAny_loadPart hx (wpAny_bind (Looks.here (s := { s with toks := s.toks + 1 }) L ?_))))))
  rw [hd']
  refine wpAny_pure (a := some dx) (wpAny_bind (wpAny_pure (wpAny_bind ?_)))
  refine nsSetN (s := { s with toks := s.toks + 1 }) hn fun h' hn' hs => ?_
  have hn'' := hn'
  obtain ⟨o', es', ep', q1, q2, q3, q4, q5⟩ := hn''
  refine wpAny_bind (wpAny_lookBehind q1 (by rw [q2]; exact pastItsLine_dict (by rw [sizeLine_eq]; split at q5 <;> lia)) ?_)
  exact wpAny_pure (h h' hn' hs _)

set_option tactic.hygienic true in
theorem s_setattr {σ σ₁ σ₂ σ₃ : Store} {l : Loc} {o x : E} {f : Nat} {p r : PV} (hx : Good P w K a d (.e x l σ) (.v r σ₁)) (ho : Good P w K a d (.e o l σ₁) (.v p σ₂)) (hs : setattrV σ₂ p f r = some σ₃) :
    Good P w K a d (.s (.setattr o f x) l σ) (.fl .next l σ₃) := by
  intro c e A B ρ s ao hi ar st Q E h
  obtain ⟨t, tp, v, pos, i1, i2, i3⟩ := isS_setattr hi
  obtain ⟨j, k, fs, rfl, e, hf, rfl⟩ : ∃ j k fs, p = .ref j ∧ σ₂[j]? = some (.inst k fs) ∧ (fs.lookup f).isSome ∧ σ₃ = σ₂.set j (.inst k (setF f r fs)) := by
    unfold setattrV at hs
    split at hs
    · split at hs
      · split at hs
        · cases hs; rename_i e hf; exact ⟨_, _, _, rfl, e, hf, rfl⟩
        · cases hs
      · cases hs
    · cases hs
  refine plainObj_wpAny_Assign_Attribute ((hx c v A B ρ s ao i3 ar st).1 _ _ fun u s₁ ⟨B₁, ρ₁, t₁, S₁, r₁⟩ => ?_) (swaps_plain i2)
  refine (ho c t A B₁ ρ₁ s₁ ao i1 ar (st.step t₁ S₁)).1 _ _ fun y s₂ ⟨B₂, ρ₂, t₂, S₂, r₂⟩ => ?_
  cases r₂ with | ref hr =>
  rename_i y dy _
  obtain ⟨g1, g2, ox, m, e1, e2, e3, e4, e5, e6, e7⟩ := S₂.mo j _ _ e hr
  obtain ⟨q, hq⟩ := Option.isSome_iff_exists.mp hf
  have hfield := g2 f q hq
  have ru := r₁.mono t₂.base t₂.pre
  obtain ⟨v0, hv0, _⟩ := e6 f q hq
  refine setAttr_ok ao.fa (S₂.kin.keeps S₂.stays) g1 e1 e2 e3 e4 e5 (by decide) (ao.fa.attr k f g1 hfield).2 fun h' hn' hs' tk => ?_
  have ydy : y ≠ dy := fun z => by
    obtain ⟨od, _, _, z1, z2, _⟩ := e5
    rw [← z, e1] at z1
    cases z1
    rw [e4] at z2; cases z2
  obtain ⟨t₃, S₃⟩ := S₂.turn (s' := { s₂ with heap := h', toks := tk }) (o := .inst k (setF f r fs)) hr (.inr rfl) hs'.2
    ⟨g1, fun g p hg => by
      rw [setF_lookup] at hg
      by_cases z : g = f
      · rw [z]; exact hfield
      · rw [if_neg z] at hg; exact g2 g p hg, ox, _, (hs'.2 y ydy).trans e1, e2, e3, e4, by rw [hv0] at hn'; exact hn', fun g p hg => by
      rw [setF_lookup] at hg
      by_cases z : g = f
      · subst z
        rw [if_pos rfl] at hg; cases hg
        exact ⟨u, by simp, ru⟩
      · rw [if_neg z] at hg
        obtain ⟨v', z1, z2⟩ := e6 g p hg
        refine ⟨v', ?_, z2⟩
        rw [if_neg (names_apart k g1 g (g2 g p hg) f hfield z)]
        exact z1, fun z hz => by
      have hzf : nm f ≠ z := hz f r (by rw [setF_lookup, if_pos rfl])
      rw [if_neg (Ne.symm hzf)]
      refine e7 z fun g p hg => ?_
      by_cases w : g = f
      · subst w; exact hzf
      · exact hz g p (by rw [setF_lookup, if_neg w]; exact hg)⟩
  have t := (t₁.trans t₂).trans t₃
  exact h _ _ ⟨B₂, ρ₂, t.low, S₃, fun _ => (st.step t S₃).2, trivial⟩
end
end Mine
end
section
open PySem PySem.W PyProof.Rows PySem.Calls
namespace Mine
section
variable {P : Program} {w : World} {K : Frag} {a : Adr} {d : Nat}

theorem Exc.turn {X Y : Heap → Addr → Heap → Prop} {fr : List Env} {xs ks : List Addr} {B : Heap} {ρ : Rho} {s s' : Shared} {σ' : Store} {e : V} (x : Exc K a X fr xs ks B ρ s σ' e s') :
    ∃ Bx ea, e = .ref ea ∧ X Bx ea s'.heap ∧ ∀ h', s'.heap.UpToSlots h' → Y Bx ea h' → Exc K a Y fr xs ks B ρ s σ' e { s' with heap := h' } := by
  obtain ⟨B', ρ', Bx, ea, e1, e2, e3, e4, e5, e6, e7⟩ := x
  exact ⟨Bx, ea, e1, e5, fun h' up y => ⟨B', ρ', Bx, ea, e1, e2.heap h', e3, e4, y, e6, fun b m f q => up.ns (e7 b m f q)⟩⟩

/-- the frame notes what passes -/
theorem noted {A : Around} {c : Act} {B : Heap} {ρ : Rho} {σ' : Store} {s s' : Shared} {e : V} {Q : Unit → Shared → Prop} {E : V → Shared → Prop} (hA : A.frames = some c.fr) (x : ExX K a c.fr c.L (frs c.fr) B ρ s σ' e s')
    (h : ∀ s'', ExH K a c.fr c.L (frs c.fr) B ρ s σ' e s'' → Q () s'') : wpAny (model P w) A (noteFrame e c.env) Q E s' := by
  obtain ⟨Bx, ea, rfl, hx, fin⟩ := Exc.turn (Y := fun Bx ea h => ∃ a0, Heap.HeldW Bx c.fr ea (.ref a.err) a0 c.L h) x
  rcases hx with ⟨k1, k2, k3, oe, vs, a0, k4, k5, k6, k7, k8⟩ | ⟨a0, fl⟩ | ⟨a0, he⟩
  · unfold noteFrame
    simp only [show c.env.frame = some c.L from rfl]
    refine wpAny_bind (wpAny_field k4 k6 k8 ?_)
    rw [if_neg (by decide)]
    refine wpAny_entryW (base := Bx) hA k3 rfl k4 k1 k2 k6 (Array.getElem?_eq_some_iff.mp k8).1 k7 fun h' N => h _ (fin h' N.2.2.2 ⟨a0, N.1, k2, N.2.1, ?_⟩)
    rw [← k5]; exact N.2.2.1
  · exact wpAny_looks_onW hA rfl fl fun h' q up => h _ (fin h' up ⟨a0, q⟩)
  · exact wpAny_noteFrame_againW rfl he.2.2.2 (h _ (fin _ (.refl _) ⟨a0, he⟩))

/-- back in the frame's own text -/
theorem back {A : Around} {c : Act} {B : Heap} {ρ : Rho} {σ' : Store} {s s' : Shared} {e : V} {E : V → Shared → Prop} (x : ExH K a c.fr c.L (frs c.fr) B ρ s σ' e s')
    (h : ∀ s'', ExH K a c.fr c.L (frs c.fr) B ρ s σ' e s'' → E e s'') : cameBackBy (model P w) A c.env E e s' := by
  obtain ⟨Bx, ea, rfl, ⟨a0, f1, f2, f3, f4⟩, fin⟩ := Exc.turn (Y := fun Bx ea h => ∃ a0, Heap.HeldW Bx c.fr ea (.ref a.err) a0 c.L h) x
  obtain ⟨oe, vs, T, oT, ts, he, hcls, hd, h1, hnT, hTe, hT, hdT, h3⟩ := f4
  have hsz3 : 3 < ts.size := (Array.getElem?_eq_some_iff.mp h3).1
  have other : ∀ b, b ≠ T → (s'.heap.update T (Obj.mapFields (·.setIfInBounds 3 ((some c.L : Option Addr).elim Value.none fun f => rawInt f)))).get? b = s'.heap.get? b :=
    fun b hb => Heap.get?_update_other _ _ (Ne.symm hb)
  have noRecord : ∀ b o, s'.heap.get? b = some o → (∀ vs, o.data ≠ .fields vs) → b ≠ T := fun b o hb hnf q => by
    rw [q, hT] at hb; injection hb with hb; subst hb; exact hnf ts hdT
  unfold cameBackBy
  refine wpAny_bind (wpAny_field he hd h1 ?_)
  rw [if_neg (show ¬ ((Value.ref T == Value.none) = true) from by simp)]
  show wpAny _ _ (setFlight (.ref ea) (some c.L)) _ _ _
  unfold setFlight
  refine wpAny_bind (wpAny_field he hd h1 ?_)
  rw [if_pos (show (Value.ref T != Value.none) = true from by simp)]
  refine wpAny_setField hT hdT hsz3 (h _ (fin _ (fun b o hb hnf => ⟨o.slots, (other b (noRecord b o hb hnf)).trans hb⟩) ⟨a0, fun b o hbo => (other b fun q => by rw [q, hnT] at hbo; cases hbo).trans (f1 b o hbo), f2, f3.of_keeps fun b o hb hnf => ⟨o, (other b (noRecord b o hb hnf)).trans hb, rfl⟩, ?_⟩))
  exact ⟨oe, vs, T, _, _, (other ea (Ne.symm hTe)).trans he, hcls, hd, h1, hnT, hTe, Heap.get?_update_self _ hT (Obj.isFreed_of_fields (Obj.data_mapFields hdT _)), Obj.data_mapFields hdT _, by simp [hsz3, rawInt]⟩

theorem ExH.x {c : Act} {B : Heap} {ρ : Rho} {σ' : Store} {s s' : Shared} {e : V} (x : ExH K a c.fr c.L (frs c.fr) B ρ s σ' e s') : ExX K a c.fr c.L (frs c.fr) B ρ s σ' e s' := by
  obtain ⟨B', ρ', Bx, ea, e1, e2, e3, e4, e5, e6, e7⟩ := x
  exact ⟨B', ρ', Bx, ea, e1, e2, e3, e4, .inr (.inr e5), e6, e7⟩
theorem ExH.pre {c : Act} {B B₁ : Heap} {ρ ρ₁ : Rho} {s s₁ s' : Shared} {σ' : Store} {e : V} (t : Step (frs c.fr) (frs c.fr.tail) B ρ s B₁ ρ₁ s₁) (x : ExH K a c.fr c.L (frs c.fr) B₁ ρ₁ s₁ σ' e s') : ExH K a c.fr c.L (frs c.fr) B ρ s σ' e s' :=
  Exc.pre t (fun b hb => hb) x

/-- one turn -/
theorem while_turn {A : Around} {s : Shared} {test : XE} {body : List XS} {env : Env} {R : Result → Shared → Prop}
    (h : wpAny (model P w) A (isTrue test env (eval test env)) (fun b s₂ =>
        if b then wpAny (model P w) A (execs body env) (fun f s₃ => match f with
            | .next | .cont => codeAny (model P w) A (.whileLoop test body [] env) R s₃
            | .brk => R (.ok .next) s₃
            | .ret v => R (.ok (.ret v)) s₃) (notedBy (model P w) A env fun e s' => R (.error e) s') s₂
        else R (.ok .next) s₂) (notedBy (model P w) A env fun e s' => R (.error e) s') s) : codeAny (model P w) A (.whileLoop test body [] env) R s := by
  refine codeAny_of_tree ?_
  show wpAny _ A ((whileTurn test body [] env).onRaise (fun x => do noteFrame x env; theTreesLotGoes x)) _ _ s
  refine wpAny_noted ?_
  simp only [whileTurn]
  refine wpAny_bind (wpAny_mono h (fun b s₂ h₂ => ?_) fun _ _ h' => h')
  cases b with
  | false =>
    simp only [Bool.false_eq_true, if_false] at h₂ ⊢
    exact wpAny_bind (wpAny_execs_nil (wpAny_pure h₂))
  | true =>
    simp only [if_true] at h₂ ⊢
    refine wpAny_bind (wpAny_mono h₂ (fun f s₃ h₃ => ?_) fun _ _ h' => h')
    cases f with
    | next => exact wpAny_pure ⟨rfl, h₃⟩
    | cont => exact wpAny_pure ⟨rfl, h₃⟩
    | brk => exact wpAny_pure h₃
    | ret v => exact wpAny_pure h₃

theorem w_end {σ σ₁ : Store} {l : Loc} {t : E} {b : List S} (ht : Good P w K a d (.e t l σ) (.v (.bool false) σ₁)) : Good P w K a d (.whl t b l σ) (.fl .next l σ₁) := by
  intro c t' b' A B ρ s ao hi hb ar st R h
  refine while_turn ((ht c t' A B ρ s ao hi ar st).2 false rfl _ _ fun s₁ ⟨B₁, ρ₁, t₁, S₁⟩ => ?_)
  exact h _ _ ⟨B₁, ρ₁, t₁.low, S₁, fun _ => (st.step t₁ S₁).2, trivial⟩
theorem w_next {σ σ₁ σ₂ σ₃ : Store} {l l₁ l₂ : Loc} {t : E} {b : List S} {f : Flow} (ht : Good P w K a d (.e t l σ) (.v (.bool true) σ₁)) (hb : Good P w K a d (.ss b l σ₁) (.fl .next l₁ σ₂)) (hr : Good P w K a d (.whl t b l₁ σ₂) (.fl f l₂ σ₃)) : Good P w K a d (.whl t b l σ) (.fl f l₂ σ₃) := by
  intro c t' b' A B ρ s ao hi hib ar st R h
  refine while_turn ((ht c t' A B ρ s ao hi ar st).2 true rfl _ _ fun s₁ ⟨B₁, ρ₁, t₁, S₁⟩ => ?_)
  refine hb c b' A B₁ ρ₁ s₁ ao hib ar (st.step t₁ S₁) _ _ fun g s₂ ⟨B₂, ρ₂, t₂, S₂, L₂, f₂⟩ => ?_
  cases g <;> first | exact f₂.elim | skip
  exact hr c t' b' A B₂ ρ₂ s₂ ao hi hib ar ⟨S₂, L₂ rfl⟩ R fun g s' ok => h _ _ (ok.pre (t₁.low.trans t₂))
theorem w_nextx {σ σ₁ σ₂ σ₃ : Store} {l l₁ : Loc} {t : E} {b : List S} (ht : Good P w K a d (.e t l σ) (.v (.bool true) σ₁)) (hb : Good P w K a d (.ss b l σ₁) (.fl .next l₁ σ₂)) (hr : Good P w K a d (.whl t b l₁ σ₂) (.exc σ₃)) : Good P w K a d (.whl t b l σ) (.exc σ₃) := by
  intro c t' b' A B ρ s ao hi hib ar st R h
  refine while_turn ((ht c t' A B ρ s ao hi ar st).2 true rfl _ _ fun s₁ ⟨B₁, ρ₁, t₁, S₁⟩ => ?_)
  refine hb c b' A B₁ ρ₁ s₁ ao hib ar (st.step t₁ S₁) _ _ fun g s₂ ⟨B₂, ρ₂, t₂, S₂, L₂, f₂⟩ => ?_
  cases g <;> first | exact f₂.elim | skip
  exact hr c t' b' A B₂ ρ₂ s₂ ao hi hib ar ⟨S₂, L₂ rfl⟩ R fun g s' ok => h _ _ (ExH.pre (t₁.low.trans t₂) ok)
theorem w_exc {σ σ₁ σ₂ : Store} {l : Loc} {t : E} {b : List S} (ht : Good P w K a d (.e t l σ) (.v (.bool true) σ₁)) (hb : Good P w K a d (.ss b l σ₁) (.exc σ₂)) : Good P w K a d (.whl t b l σ) (.exc σ₂) := by
  intro c t' b' A B ρ s ao hi hib ar st R h
  refine while_turn ((ht c t' A B ρ s ao hi ar st).2 true rfl _ _ fun s₁ ⟨B₁, ρ₁, t₁, S₁⟩ => ?_)
  refine hb c b' A B₁ ρ₁ s₁ ao hib ar (st.step t₁ S₁) _ _ fun v s₂ x => ?_
  exact noted ar.frames x fun s'' y => h _ _ (ExH.pre t₁.low y)

theorem s_whl {σ σ₁ : Store} {l l₁ : Loc} {t : E} {b : List S} {f : Flow} (h : Good P w K a d (.whl t b l σ) (.fl f l₁ σ₁)) : Good P w K a d (.s (.whl t b) l σ) (.fl f l₁ σ₁) := by
  intro c e A B ρ s ao hi ar st Q E k
  obtain ⟨t', b', pos, i1, i2⟩ := isS_whl hi
  exact wpAny_While (h c t' b' A B ρ s ao i1 i2 ar st _ fun g s' ok => k _ _ ok)
theorem s_whlx {σ σ₁ : Store} {l : Loc} {t : E} {b : List S} (h : Good P w K a d (.whl t b l σ) (.exc σ₁)) : Good P w K a d (.s (.whl t b) l σ) (.exc σ₁) := by
  intro c e A B ρ s ao hi ar st Q E k
  obtain ⟨t', b', pos, i1, i2⟩ := isS_whl hi
  exact wpAny_While (h c t' b' A B ρ s ao i1 i2 ar st _ fun v s' x => back x fun s'' y => k _ _ y.x)
end
end Mine
end
section
open PySem PySem.W PyProof.Rows PySem.Calls
namespace Mine
section
variable {P : Program} {w : World} {K : Frag} {a : Adr} {d : Nat}

/-- a thing that is none of ours turns -/
theorem St.besides {fr : List Env} {ks : List Addr} {B : Heap} {ρ : Rho} {σ : Store} {s s' : Shared} {it : Addr} (S : St a.cls K fr B ρ σ s.heap) (hB : B.get? it = none) (hO : ¬ isOwn ρ it) (hF : it ∉ frs fr) (hks : it ∉ ks) (k : ∀ b o, b ≠ it → s.heap.get? b = some o → s'.heap.get? b = some o) (ho : s'.os = s.os := by rfl) (hg : s'.gens = s.gens := by rfl) :
    Step (it :: frs fr) ks B ρ s B ρ s' ∧ St a.cls K fr B ρ σ s'.heap := by
  have nB : ∀ b o, B.get? b = some o → b ≠ it := fun b o e q => by rw [q, hB] at e; cases e
  have nO : ∀ b, isOwn ρ b → b ≠ it := fun b h q => hO (q ▸ h)
  refine ⟨⟨⟨fun _ _ e => e, fun _ _ e => .inl e, List.prefix_refl _, fun _ h => .inl h, ho, hg⟩, fun b o e n f => k b o (fun q => f (q ▸ .head _)) e, fun b m f ⟨ob, es, ep, h1, r⟩ => ⟨ob, es, ep, k b ob (fun (q : b = it) => hks (by rw [← q]; exact f)) h1, r⟩⟩,
    ⟨⟨S.kin, fun b o e => k b o (nB b o e) (S.stays b o e), S.len, fun i o p e1 e2 => ?_, S.own, S.dis⟩, S.off, FunFrames_upd (fun b f => ?_) S.frames⟩⟩
  · have n1 := nO p.1 ⟨p, List.mem_of_getElem? e2, .inl rfl⟩
    have n2 := nO p.2 ⟨p, List.mem_of_getElem? e2, .inr rfl⟩
    exact (S.mo i o p e1 e2).mono (fun _ _ e => e) (List.prefix_refl _) (fun ob e => k _ ob n1 e) fun _ m ⟨ob, es, ep, h1, r⟩ => ⟨ob, es, ep, k _ ob n2 h1, r⟩
  · obtain ⟨o, e, z⟩ := (S.frames.mem f).2
    exact ⟨o, k b o (fun q => hF (q ▸ f)) e, z⟩

/-- what stands of an iterator of ours across a step -/
structure ItIn (c : Act) (B : Heap) (ρ : Rho) (s : Shared) (it : Addr) : Prop where
  b : B.get? it = none
  o : ¬ isOwn ρ it
  f : it ∉ frs c.fr
  at_ : ∃ o, s.heap.get? it = some o
theorem ItIn.step {c : Act} {ks : List Addr} {B B' : Heap} {ρ ρ' : Rho} {s s' : Shared} {it : Addr} (x : ItIn c B ρ s it) (t : Step (frs c.fr) ks B ρ s B' ρ' s') : ItIn c B' ρ' s' it ∧ ∀ o, s.heap.get? it = some o → s'.heap.get? it = some o := by
  obtain ⟨o, e⟩ := x.at_
  refine ⟨⟨?_, t.old_new e x.o x.f, x.f, o, t.old it o e x.o x.f⟩, fun o e => t.old it o e x.o x.f⟩
  cases q : B'.get? it with
  | none => rfl
  | some o' =>
    rcases t.fresh it o' q with z | z | z | z
    · rw [x.b] at z; cases z
    · rw [e] at z; cases z
    · exact absurd z x.f
    · exact absurd z x.o
theorem ItOk.step {ρ ρ' : Rho} {h h' : Heap} {it : Addr} {src : Src} (x : ItOk h ρ it src) (hp : ρ <+: ρ') (k : ∀ o, h.get? it = some o → h'.get? it = some o) : ItOk h' ρ' it src := by
  cases src with
  | lst i j => obtain ⟨b, d, h1, o, h2, r⟩ := x; exact ⟨b, d, prefix_get hp h1, o, k o h2, r⟩
  | vals l =>
    rcases x with ⟨y, left, h1, h2⟩ | ⟨y, t, i, ⟨o, h1, r⟩, h2⟩
    · exact .inl ⟨y, left, k _ h1, h2⟩
    · exact .inr ⟨y, t, i, ⟨o, k o h1, r⟩, h2⟩

theorem str_end {A : Around} {s : Shared} {it : Addr} {x : Str} {t : Tok} {i : Nat} {Q : Option V → Shared → Prop} {E : V → Shared → Prop} (hh : A.handled = none) (I : s.heap.IsStrIter it (strIterType x) x t i) (hx : x.cps[i]? = none) (h : ∀ h', Heap.ExtBut it s.heap h' → Q none { s with heap := h' }) : wpAny (model P w) A (pyNext (.ref it)) Q E s := by
  unfold strIterType at I
  split at I
  · exact wpAny_pyNext_ascii_end hh I hx h
  · exact wpAny_pyNext_wide_end hh I hx h
set_option tactic.hygienic true in
theorem str_item {A : Around} {s : Shared} {it : Addr} {x : Str} {t : Tok} {i c : Nat} {Q : Option V → Shared → Prop} {E : V → Shared → Prop} (I : s.heap.IsStrIter it (strIterType x) x t i) (hx : x.cps[i]? = some c) (h : ∀ h' tk n, h'.IsStrIter it (strIterType x) x t (i + 1) → Heap.SameBut it s.heap h' → Q (some (.str ⟨#[c]⟩ tk)) { s with heap := h', toks := n }) : wpAny (model P w) A (pyNext (.ref it)) Q E s := by
  unfold strIterType at I h
  split at I
  · rename_i q
    rw [if_pos q] at h
    exact wpAny_pyNext_ascii_item I hx fun h' h1 h2 => h h' _ _ h1 h2
  · rename_i q
    rw [if_neg q] at h
    exact wpAny_pyNext_wide_item I hx fun h' h1 h2 => h h' _ _ h1 h2

theorem for_turn {A : Around} {s : Shared} {x : Str} {xp : Pos} {it : V} {body : List XS} {env : Env} {R : Result → Shared → Prop}
    (h : ∀ E, wpAny (model P w) A (pyNext it) (fun r s₁ => match r with
      | none => R (.ok .next) s₁
      | some v => ∀ E, wpAny (model P w) A (storeName env x v) (fun _ s₂ => ∀ E, wpAny (model P w) A (execs body env) (fun f s₃ => match f with
          | .next | .cont => codeAny (model P w) A (.forLoop (.Name x xp) it body [] env) R s₃
          | .brk => R (.ok .next) s₃
          | .ret v => R (.ok (.ret v)) s₃) E s₂) E s₁) E s) : codeAny (model P w) A (.forLoop (.Name x xp) it body [] env) R s := by
  refine codeAny_of_tree ?_
  show wpAny _ A ((forTurn (.Name x xp) it body [] env).onRaise (fun x => do noteFrame x env; theTreesLotGoes x)) _ _ s
  refine wpAny_noted ?_
  simp only [forTurn]
  refine wpAny_bind (wpAny_standAt (wpAny_bind (wpAny_onRaise (wpAny_mono (h (notedBy (model P w) A env fun e s' => R (.error e) s')) (fun r s₁ h₁ => ?_) fun _ _ h' => wpAny_standAt h'))))
  cases r with
  | none => exact wpAny_pure ⟨rfl, codeAny_block (wpAny_execs_nil h₁)⟩
  | some v =>
    refine wpAny_bind (wpAny_of_eq (show letOwnedTupleGo (.Name x xp) it v = pure () from rfl) ?_)
    refine wpAny_bind (wpAny_assign_Name (wpAny_mono (h₁ _) (fun _ s₂ h₂ => wpAny_bind (wpAny_mono (h₂ _) (fun f s₃ h₃ => ?_) fun _ _ h' => h')) fun _ _ h' => h'))
    cases f with
    | next => exact wpAny_pure ⟨rfl, h₃⟩
    | cont => exact wpAny_pure ⟨rfl, h₃⟩
    | brk => exact wpAny_pure h₃
    | ret v => exact wpAny_pure h₃

set_option tactic.hygienic true in
/-- the iterator ends -/
theorem next_end {A : Around} {B : Heap} {fr : List Env} {ρ : Rho} {σ : Store} {s : Shared} {it : Addr} {src : Src} {Q : Option V → Shared → Prop} {E : V → Shared → Prop} (hh : A.handled = none) (S : St a.cls K fr B ρ σ s.heap) (I : ItOk s.heap ρ it src) (hn : srcNext σ src = some none)
    (h : ∀ h' tk, (∀ b o, b ≠ it → s.heap.get? b = some o → h'.get? b = some o) → Q none { s with heap := h', toks := tk }) : wpAny (model P w) A (pyNext (.ref it)) Q E s := by
  cases src with
  | lst i j =>
    obtain ⟨b, dd, h1, h2⟩ := I
    simp only [srcNext] at hn
    split at hn
    · rename_i l e
      simp only [Option.some.injEq, Option.map_eq_none_iff] at hn
      obtain ⟨rfl, o, xs, n, e1, e2, ed, e3, e4, e5⟩ := S.mo i _ _ e h1
      have : l.length ≤ j := List.getElem?_eq_none_iff.mp hn
      exact wpAny_pyNext_list_end hh h2 ⟨o, e1, e2, n, e3⟩ (Array.getElem?_eq_none (by lia)) fun h' he => h h' s.toks he
    · cases hn
  | vals l =>
    cases l with
    | cons v r => simp [srcNext] at hn
    | nil =>
      rcases I with ⟨y, left, h1, h2⟩ | ⟨y, t, i, h1, h2⟩
      · have : left.toNat = 0 := by simpa using h2.symm
        exact wpAny_pyNext_range_end hh h1 (by lia) fun h' he => h h' s.toks he
      · have hi : y.cps.size ≤ i := by
          have := congrArg List.length h2
          simp at this; lia
        exact str_end hh h1 (Array.getElem?_eq_none hi) fun h' he => h h' s.toks he

set_option tactic.hygienic true in
/-- the iterator's next item -/
theorem next_item {A : Around} {B : Heap} {fr : List Env} {ρ : Rho} {σ : Store} {s : Shared} {it : Addr} {src src' : Src} {p : PV} {Q : Option V → Shared → Prop} {E : V → Shared → Prop} (S : St a.cls K fr B ρ σ s.heap) (I : ItOk s.heap ρ it src) (hn : srcNext σ src = some (some (p, src')))
    (h : ∀ v h' tk, Heap.SameBut it s.heap h' → RepV a.cls B ρ p v → ItOk h' ρ it src' → Q (some v) { s with heap := h', toks := tk }) : wpAny (model P w) A (pyNext (.ref it)) Q E s := by
  cases src with
  | lst i j =>
    obtain ⟨b, dd, h1, h2⟩ := I
    simp only [srcNext] at hn
    split at hn
    · rename_i l e
      simp only [Option.some.injEq, Option.map_eq_some_iff, Prod.mk.injEq] at hn
      obtain ⟨p', q1, q2, q3⟩ := hn
      subst q2; subst q3
      obtain ⟨rfl, o, xs, n, e1, e2, ed, e3, e4, e5⟩ := S.mo i _ _ e h1
      have hj : j < l.length := (List.getElem?_eq_some_iff.mp q1).1
      have hj' : j < xs.size := by lia
      refine wpAny_pyNext_list_item h2 ⟨o, e1, e2, n, e3⟩ (Array.getElem?_eq_getElem hj') fun h' h3 h4 => ?_
      exact h _ h' s.toks h4 (e5 j _ _ q1 (Array.getElem?_eq_getElem hj')) ⟨_, _, h1, h3⟩
    · cases hn
  | vals l =>
    cases l with
    | nil => simp [srcNext] at hn
    | cons v r =>
      simp only [srcNext, Option.some.injEq, Prod.mk.injEq] at hn
      obtain ⟨rfl, rfl⟩ := hn
      rcases I with ⟨y, left, h1, h2⟩ | ⟨y, t, i, h1, h2⟩
      · have h0 : 0 < left := by
          have := congrArg List.length h2
          simp at this; lia
        obtain ⟨m, hm⟩ : ∃ m : Nat, left = (m : Int) + 1 := ⟨(left - 1).toNat, by lia⟩
        subst hm
        rw [show ((m : Int) + 1).toNat = m + 1 from by lia, List.range_succ_eq_map, List.map_cons] at h2
        injection h2 with h3 h4
        refine wpAny_pyNext_range_item h1 h0 fun h' h5 h6 => h _ h' _ h6 (by rw [h3]; rw [show y + ((0 : Nat) : Int) = y from by lia]; exact .int ..) (.inl ⟨y + 1, (m : Int) + 1 - 1, h5, ?_⟩)
        rw [h4, show ((m : Int) + 1 - 1).toNat = m from by lia, List.map_map]
        refine List.map_congr_left fun k _ => ?_
        show PV.int (y + ((k + 1 : Nat) : Int)) = PV.int (y + 1 + (k : Int))
        congr 1; lia
      · have hi : i < y.cps.size := by
          have := congrArg List.length h2
          simp at this; lia
        have hl : y.cps.toList.drop i = y.cps[i] :: y.cps.toList.drop (i + 1) := by
          rw [List.drop_eq_getElem_cons (by simpa using hi)]; simp
        rw [hl, List.map_cons] at h2
        injection h2 with h3 h4
        refine str_item h1 (Array.getElem?_eq_getElem hi) fun h' tk n h5 h6 => h _ h' n h6 (by rw [h3]; exact .str _ _) (.inr ⟨y, t, i + 1, h5, h4⟩)

theorem f_end {σ : Store} {l : Loc} {i : Nat} {src : Src} {b : List S} (hn : srcNext σ src = some none) : Good P w K a d (.fr i src b l σ) (.fl .next l σ) := by
  intro c x xp it b' A B ρ s ao hx hl hb ar st io h1 h2 h3 R h
  refine for_turn fun E => next_end ar.handled st.1 io hn fun h' tk k => ?_
  obtain ⟨t, S⟩ := st.1.besides (s' := { s with heap := h', toks := tk }) (ks := frs c.fr.tail) h1 h2 h3 (fun q => h3 (tail_sub c _ q)) k
  obtain ⟨m, n1, n2⟩ := st.2
  exact h _ _ ⟨B, ρ, t, S, fun _ => ⟨m, by
    obtain ⟨ob, es, ep, q, r⟩ := n1
    exact ⟨ob, es, ep, k _ ob (fun (q : c.L = it) => h3 (by rw [← q]; exact c.mem)) q, r⟩, n2⟩, trivial⟩

theorem f_item {c : Act} {A : Around} {B : Heap} {ρ : Rho} {σ : Store} {l : Loc} {s : Shared} {it : Addr} {src src' : Src} {p : PV} {i : Nat} {x : Str} {xp : Pos} {b' : List XS} {R : Result → Shared → Prop} (ao : ActOk K a c) (hx : c.names[i]? = some x) (hl : c.S.lcl x = true) (st : St1 K a c B ρ σ l s)
    (io : ItOk s.heap ρ it src) (h1 : B.get? it = none) (h2 : ¬ isOwn ρ it) (h3 : it ∉ frs c.fr) (hn : srcNext σ src = some (some (p, src')))
    (h : ∀ s₁, St1 K a c B ρ σ (l.set i (some p)) s₁ → Step (it :: frs c.fr) (frs c.fr.tail) B ρ s B ρ s₁ → ItIn c B ρ s₁ it → ItOk s₁.heap ρ it src' → ∀ E, wpAny (model P w) A (execs b' c.env) (fun f s₃ => match f with
          | .next | .cont => codeAny (model P w) A (.forLoop (.Name x xp) (.ref it) b' [] c.env) R s₃
          | .brk => R (.ok .next) s₃
          | .ret v => R (.ok (.ret v)) s₃) E s₁) : codeAny (model P w) A (.forLoop (.Name x xp) (.ref it) b' [] c.env) R s := by
  refine for_turn fun E => next_item st.1 io hn fun v h' tk hs rv io' E => ?_
  have k : ∀ b o, b ≠ it → s.heap.get? b = some o → h'.get? b = some o := fun b o n e => (hs.2 b n).trans e
  obtain ⟨t, S⟩ := st.1.besides (s' := { s with heap := h', toks := tk }) (ks := frs c.fr.tail) h1 h2 h3 (fun q => h3 (tail_sub c _ q)) k
  have L1 : Lo a.cls B ρ c.names l h' c.L := by
    obtain ⟨m, ⟨ob, es, ep, q, r⟩, n2⟩ := st.2
    exact ⟨m, ⟨ob, es, ep, k _ ob (fun (q : c.L = it) => h3 (by rw [← q]; exact c.mem)) q, r⟩, n2⟩
  have alive : ∃ o, h'.get? it = some o := by
    cases src' with
    | lst i j => obtain ⟨_, _, _, o, e, _⟩ := io'; exact ⟨o, e⟩
    | vals l =>
      rcases io' with ⟨_, _, e, _⟩ | ⟨_, _, _, ⟨o, e, _⟩, _⟩
      · exact ⟨_, e⟩
      · exact ⟨o, e⟩
  refine store_ok ao (s := { s with heap := h', toks := tk }) ⟨S, L1⟩ hx hl rv fun s₁ T₁ t₁ E => ?_
  have I : ItIn c B ρ { s with heap := h', toks := tk } it := ⟨h1, h2, h3, alive⟩
  obtain ⟨I₁, k₁⟩ := I.step t₁
  exact h s₁ T₁ (t.trans (t₁.weak (fun _ h => .tail _ h) fun _ h => h)) I₁ (io'.step (List.prefix_refl _) k₁) E

theorem f_next {σ σ₁ σ₂ : Store} {l l₁ l₂ : Loc} {i : Nat} {src src' : Src} {p : PV} {b : List S} {f : Flow} (hn : srcNext σ src = some (some (p, src'))) (hb : Good P w K a d (.ss b (l.set i (some p)) σ) (.fl .next l₁ σ₁)) (hr : Good P w K a d (.fr i src' b l₁ σ₁) (.fl f l₂ σ₂)) : Good P w K a d (.fr i src b l σ) (.fl f l₂ σ₂) := by
  intro c x xp it b' A B ρ s ao hx hl hib ar st io h1 h2 h3 R h
  refine f_item ao hx hl st io h1 h2 h3 hn fun s₁ T₁ t₁ I₁ io₁ E => ?_
  refine hb c b' A B ρ s₁ ao hib ar T₁ _ _ fun g s₂ ⟨B₂, ρ₂, t₂, S₂, L₂, f₂⟩ => ?_
  cases g <;> first | exact f₂.elim | skip
  obtain ⟨I₂, k₂⟩ := I₁.step t₂
  exact hr c x xp it b' A B₂ ρ₂ s₂ ao hx hl hib ar ⟨S₂, L₂ rfl⟩ (io₁.step t₂.pre k₂) I₂.b I₂.o I₂.f R fun g s' ok => h _ _ (ok.pre (t₁.trans (t₂.weak (fun _ h => .tail _ h) fun _ h => h)))
theorem f_ret {σ σ₁ : Store} {l l₁ : Loc} {i : Nat} {src src' : Src} {p q : PV} {b : List S} (hn : srcNext σ src = some (some (p, src'))) (hb : Good P w K a d (.ss b (l.set i (some p)) σ) (.fl (.ret q) l₁ σ₁)) : Good P w K a d (.fr i src b l σ) (.fl (.ret q) l₁ σ₁) := by
  intro c x xp it b' A B ρ s ao hx hl hib ar st io h1 h2 h3 R h
  refine f_item ao hx hl st io h1 h2 h3 hn fun s₁ T₁ t₁ I₁ io₁ E => ?_
  refine hb c b' A B ρ s₁ ao hib ar T₁ _ _ fun g s₂ ⟨B₂, ρ₂, t₂, S₂, L₂, f₂⟩ => ?_
  cases g <;> first | exact f₂.elim | skip
  exact h _ _ ⟨B₂, ρ₂, t₁.trans (t₂.weak (fun _ h => .tail _ h) fun _ h => h), S₂, L₂, f₂⟩
end
end Mine
end
section
open PySem PySem.W PyProof.Rows PySem.Calls
namespace Mine
section
variable {P : Program} {w : World} {K : Frag} {a : Adr} {d : Nat}

theorem isS_forr {c : Act} {i : Nat} {t : E} {b : List S} {e : XS} (hi : isS c.S (.forr i t b) e = true) : ∃ x xp t' b' pos, e = .For (.Name x xp) t' b' [] pos ∧ c.names[i]? = some x ∧ c.S.lcl x = true ∧ isE c.S t t' = true ∧ (∀ v, foldedSetIterable t' c.env v = pure v) ∧ isSs c.S b b' = true := by
  obtain ⟨x, xp, t', b', pos, h1, h2, h3, h4, h5⟩ := isS_forV hi
  exact ⟨_, _, _, _, _, rfl, h1, h2, h3, fun v => by cases t' <;> first | rfl | exact absurd h4 Bool.false_ne_true, h5⟩

set_option tactic.hygienic true in
theorem iter_ok {A : Around} {B : Heap} {fr : List Env} {ρ : Rho} {σ : Store} {s : Shared} {p : PV} {v : V} {src : Src} {Q : V → Shared → Prop} {E : V → Shared → Prop} (S : St a.cls K fr B ρ σ s.heap) (r : RepV a.cls B ρ p v) (hs : srcOf σ p = some src)
    (h : ∀ s', (∀ b o, s.heap.get? b = some o → s'.heap.get? b = some o) → s'.os = s.os → s'.gens = s.gens → ItOk s'.heap ρ s.heap.objs.size src → Q (.ref s.heap.objs.size) s') : wpAny (model P w) A (pyIter v) Q E s := by
  cases p <;> try (simp [srcOf] at hs; done)
  · rename_i l
    cases hs
    obtain ⟨t, rfl⟩ := r.str'
    refine wpAny_pyIter_strU (h _ (push_keeps _ _) rfl rfl (.inr ⟨Mine.st l, t, 0, ⟨_, Heap.get?_push_size _ rfl, rfl, rfl⟩, ?_⟩))
    simp [Mine.st]
  · rename_i lo hi
    simp only [srcOf] at hs
    split at hs
    · rename_i hb
      cases hs
      cases r with | rng hr =>
      have hz : Builtin.Range.rangeSize lo hi 1 = if lo < hi then hi - lo else 0 := by
        unfold Builtin.Range.rangeSize
        rw [if_pos (by decide)]
        split <;> lia
      refine wpAny_pyIter_range (S.stays _ _ hr) ?_ (h _ (push_keeps _ _) rfl rfl (.inl ⟨lo, _, Heap.get?_push_size _ rfl, ?_⟩))
      · have fl : ∀ i : Int, -65536 ≤ i → i ≤ 131072 → Builtin.Range.rangeFitsLong i = true := fun i h1 h2 => by
          unfold Builtin.Range.rangeFitsLong; simp; lia
        unfold Builtin.Range.small
        rw [fl lo (by lia) (by lia), fl hi (by lia) (by lia), fl 1 (by decide) (by decide), hz, fl _ (by split <;> lia) (by split <;> lia), if_pos (show (1 : Int) > 0 by decide), fl _ (by lia) (by lia)]
        simp
      · rw [hz]
        unfold rngL
        congr 2
        split <;> lia
    · cases hs
  · rename_i i
    simp only [srcOf] at hs
    split at hs
    · rename_i l e
      cases hs
      obtain ⟨x, xs, rfl, hr, hl, e1, e2⟩ := list_ref S.toSt0 e r
      exact wpAny_pyIter_list hl (h _ (push_keeps _ _) rfl rfl ⟨x, x, hr, _, Heap.get?_push_size _ rfl, rfl, rfl⟩)
    · cases hs

theorem s_forr {σ σ₁ σ₂ : Store} {l l₁ : Loc} {i : Nat} {t : E} {b : List S} {p : PV} {src : Src} {f : Flow} (ht : Good P w K a d (.e t l σ) (.v p σ₁)) (hs : srcOf σ₁ p = some src) (hr : Good P w K a d (.fr i src b l σ₁) (.fl f l₁ σ₂)) : Good P w K a d (.s (.forr i t b) l σ) (.fl f l₁ σ₂) := by
  intro c e A B ρ s ao hi ar st Q E h
  obtain ⟨x, xp, t', b', pos, rfl, i1, i2, i3, i4, i5⟩ := isS_forr hi
  refine wpAny_For ((ht c t' A B ρ s ao i3 ar st).1 _ _ fun v s₁ ⟨B₁, ρ₁, t₁, S₁, r₁⟩ => ?_) i4
  refine iter_ok S₁ r₁ hs fun s₂ k ho hg io => ?_
  have T₁ := st.step t₁ S₁
  have t₂ : ∀ xs ks, Step xs ks B₁ ρ₁ s₁ B₁ ρ₁ s₂ := fun xs ks => .of_keeps k ho hg
  have T₂ := T₁.step (t₂ _ _) (S₁.keeps k)
  have dead : ∀ o, s₁.heap.get? s₁.heap.objs.size ≠ some o := fun o e => by rw [get?_size] at e; cases e
  refine hr c x xp s₁.heap.objs.size b' A B₁ ρ₁ s₂ ao i1 i2 i5 ar T₂ io ?_ ?_ ?_ _ fun g s' ok => h _ _ ?_
  · cases q : B₁.get? s₁.heap.objs.size with
    | none => rfl
    | some o => exact absurd (S₁.stays _ _ q) (dead o)
  · intro q
    obtain ⟨o, e⟩ := own_alive S₁.toSt0 q
    exact dead o e
  · intro q
    obtain ⟨o, e⟩ := fr_alive S₁.frames q
    exact dead o e
  · obtain ⟨B₃, ρ₃, t₃, S₃, L₃, f₃⟩ := ok
    exact ⟨B₃, ρ₃, t₁.low.trans (Step.drop (get?_size _) (t₂ _ _) t₃), S₃, L₃, f₃⟩
end
end Mine
end
section
open PySem PySem.W PyProof.Rows PySem.Calls
namespace Mine
section
variable {P : Program} {w : World} {K : Frag} {a : Adr} {d : Nat}

theorem Paired.get {α β : Type} {F : α → β → Prop} : ∀ {l₁ : List α} {l₂ : List β}, Paired F l₁ l₂ → l₁.length = l₂.length ∧ ∀ (i : Nat) x y, l₁[i]? = some x → l₂[i]? = some y → F x y
  | _, _, .nil => ⟨rfl, fun i x y h => by simp at h⟩
  | _, _, .cons h t => by
    obtain ⟨e, k⟩ := Paired.get t
    refine ⟨by simp [e], fun i x y h1 h2 => ?_⟩
    cases i with
    | zero => cases h1; cases h2; exact h
    | succ i => exact k i x y (by simpa using h1) (by simpa using h2)

theorem ints_get : ∀ {vs : List V} {ns : List Int}, IntsAre vs ns → ∀ (j : Nat) v, vs[j]? = some v → ∃ i t, ns[j]? = some i ∧ v = .int i t := by
  intro vs ns I
  induction I with
  | nil => intro j v h; simp at h
  | cons i t _ ih =>
    intro j v h
    cases j with
    | zero => cases h; exact ⟨i, t, rfl, rfl⟩
    | succ j => exact ih j v (by simpa using h)
theorem bi_int : Mine.st (biName .toInt) ≠ ("__debug__" : Str) := by decide +kernel
theorem g_intcomp {σ σ₁ : Store} {l : Loc} {x : E} {p : PV} {t : List PV} {is : List Int} (hx : Good P w K a d (.e x l σ) (.v p σ₁)) (ht : lstAt σ₁ p = some t) (hz : t.length ≤ 65536) (hi : intsOf t = some is) :
    Good P w K a d (.e (.intcomp x) l σ) (.v (.lis (is.map .int)) σ₁) := by
  intro c e A B ρ s ao hi' ar st
  obtain ⟨fp, y, yp, cp, zp, it, sc, pos, h1, hc⟩ := isE_intcomp hi'
  obtain ⟨h4, hc⟩ := and_inv hc
  obtain ⟨h5, hc⟩ := and_inv hc
  obtain ⟨h6, hc⟩ := and_inv hc
  obtain ⟨h7, hc⟩ := and_inv hc
  obtain ⟨h8, hc⟩ := and_inv hc
  obtain ⟨h9, h10⟩ := and_inv hc
  replace h5 := dec_inv h5
  replace h6 := dec_inv h6
  replace h7 := dec_inv h7
  replace h9 := dec_inv h9
  have names : ∀ n ∈ sc.names, n.2 ≠ .free ∧ n.2 ≠ .cell ∧ (n.2 = .local → sc.names.lookup n.1 = some .local) := fun n hn => by
    have := List.all_eq_true.mp h4 n hn
    simp only [Bool.and_eq_true, bne_iff_ne, Bool.or_eq_true, beq_iff_eq, ne_eq] at this
    exact ⟨this.1.1, this.1.2, fun q => this.2.resolve_left fun z => z q⟩
  refine ⟨fun Q E h => ?_, fun b hb => by cases hb⟩
  refine wpAny_ListComp_map (fun _ => true) (fun v u => ∃ i t t', v = .int i t ∧ u = .int i t') ar.handled (fun n hn => (names n hn).1) (fun n hn => (names n hn).2.1) h7 (fun n hn => (names n hn).2.2) h5
    ((hx c it A B ρ s ao h1 ar st).1 _ _ fun v s₁ ⟨B₁, ρ₁, t₁, S₁, r₁⟩ => ?_) (fun v => by cases it <;> first | rfl | exact absurd h8 Bool.false_ne_true)
  obtain ⟨ax, xs, rfl, hl, e1, e2⟩ := lst_at S₁.toSt0 ht r₁
  have hint := ints_of (a := a) (B := B₁) (ρ := ρ₁) t xs.toList is (by simpa using e1) (fun i p v x y => e2 i p v x (by simpa using y)) hi
  have item : ∀ v ∈ xs.toList, ∃ i t, v = .int i t := by
    have : ∀ {vs : List V} {ns : List Int}, IntsAre vs ns → ∀ v ∈ vs, ∃ i t, v = .int i t := by
      intro vs ns I
      induction I with
      | nil => intro v hv; cases hv
      | cons i t _ ih =>
        intro v hv
        rcases List.mem_cons.mp hv with rfl | q
        · exact ⟨_, _, rfl⟩
        · exact ih v q
    exact this hint
  refine ⟨ax, xs, rfl, hl, by rw [sizeLine_eq]; lia, fun C v s₂ m₂ E' hv hn hm k => ?_, fun C v s₂ m₂ E' hv _ hn hm k => ?_, fun D h' tk ys hD hl' hp k => ?_⟩
  · exact wpAny_pure ⟨rfl, _, _, rfl, fun _ _ e => e⟩
  · obtain ⟨i, ti, rfl⟩ := item v (by simpa using hv)
    obtain ⟨mg, mb, N⟩ := ao.fa.names B₁ S₁.kin
    have ks : B₁.StaysIn s₂.heap := fun b o e => k b o (S₁.stays b o e)
    refine Call_Name1 (Name_function_global h7 h6 (loadGlobal_builtin (env := compEnv sc C c.env) (N.g.keeps ks) (N.bi .toInt).1 (N.b.keeps ks) (N.bi .toInt).2 ?_) (beq_eq_false_iff_ne.mpr bi_int))
    refine PyProof.Rows.callWith_type (by rfl) (evalArgs_plain (spliced_cons (wpAny_Name (wpAny_loadName_local h7 h5 hn hm (spliced_nil ?_)) (by simpa using h10))))
    exact call_int_int ⟨⟨i, ti, ti, rfl, rfl⟩, _, _, rfl, fun _ _ e => e⟩
  · obtain ⟨o, o1, o2, n, o3⟩ := hl'
    obtain ⟨t₂, S₂⟩ := S₁.known (s' := { s₁ with heap := h', toks := tk }) k [D] (fun b m => by rw [List.mem_singleton.mp m]; exact hD) rfl rfl (frs c.fr) (frs c.fr)
    obtain ⟨q1, q2⟩ := Paired.get hp
    have fl : xs.toList.filter (fun _ => true) = xs.toList := by simp
    rw [fl] at q1 q2
    refine h _ _ ⟨_, _, t₁.trans t₂, S₂, .lis (growH_in o1 (.inr (.head _))) o2 o3 ?_ fun j p v a1 a2 => ?_⟩
    · have : is.length = t.length := by
        have : ∀ {vs : List V} {ns : List Int}, IntsAre vs ns → vs.length = ns.length := by
          intro vs ns I
          induction I with
          | nil => rfl
          | cons i t _ ih => simp [ih]
        rw [← this hint, Array.length_toList, e1]
      rw [List.length_map, this, e1]
      simpa using q1
    · rw [List.getElem?_map] at a1
      obtain ⟨i, w1, rfl⟩ := Option.map_eq_some_iff.mp a1
      have hj : j < xs.toList.length := by
        have := (List.getElem?_eq_some_iff.mp (show ys.toList[j]? = some v by simpa using a2)).1
        rw [q1]; exact this
      obtain ⟨i', ti, w2, w3⟩ := ints_get hint j _ (List.getElem?_eq_getElem hj)
      rw [w1] at w2; cases w2
      obtain ⟨i2, ta, tb, w4, rfl⟩ := q2 j _ _ (List.getElem?_eq_getElem hj) (by simpa using a2)
      rw [w3] at w4; cases w4
      exact .int _ _
end
end Mine
end
section
open PySem PySem.W PyProof.Rows PySem.Calls
namespace Mine
section
variable {P : Program} {w : World} {K : Frag} {a : Adr} {d : Nat}

/-- a new own object on its way through its __init__ -/
structure Making (B : Heap) (ρ : Rho) (a : Adr) (c : Nat) (s₀ s : Shared) (x dx L : Addr) (mL : Str → Option V) (k : Nat) (fs : List (Nat × PV)) : Prop where
  keeps : ∀ b o, s₀.heap.get? b = some o → s.heap.get? b = some o
  os : s.os = s₀.os
  gens : s.gens = s₀.gens
  at_ : s.heap.get? x = some (instObj (a.cls c) dx)
  nL : s.heap.Ns L mL
  dict : ∃ m, NsN s.heap dx k m ∧ (∀ f p, fs.lookup f = some p → ∃ v, m (nm f) = some v ∧ RepV a.cls B ρ p v) ∧ ∀ y, (∀ f p, fs.lookup f = some p → nm f ≠ y) → m y = none
  mem : ∀ f p, fs.lookup f = some p → f ∈ fieldsOf c

theorem Making.set {B : Heap} {ρ : Rho} {c : Nat} {s₀ s : Shared} {x dx L : Addr} {mL m : Str → Option V} {k n : Nat} {fs : List (Nat × PV)} {f : Nat} {p : PV} {v : V} {h' : Heap} {tk : Nat} (c9 : c < 9) (M : Making B ρ a c s₀ s x dx L mL k fs) (hdx : s₀.heap.get? dx = none) (xdx : x ≠ dx) (Ldx : L ≠ dx) (hf : f ∈ fieldsOf c)
    (m1 : ∀ f p, fs.lookup f = some p → ∃ v, m (nm f) = some v ∧ RepV a.cls B ρ p v) (m2 : ∀ y, (∀ f p, fs.lookup f = some p → nm f ≠ y) → m y = none) (r : RepV a.cls B ρ p v)
    (hn : NsN h' dx n (fun y => if y = nm f then some v else m y)) (hs : Heap.SameBut dx s.heap h') : Making B ρ a c s₀ { s with heap := h', toks := tk } x dx L mL n (setF f p fs) := by
  refine ⟨fun b o e => (hs.2 b fun q => by rw [q, hdx] at e; cases e).trans (M.keeps b o e), M.os, M.gens, (hs.2 x xdx).trans M.at_, ?_, ⟨_, hn, fun g q hg => ?_, fun y hy => ?_⟩, fun g q hg => ?_⟩
  · obtain ⟨o, es, ep, e, t⟩ := M.nL
    exact ⟨o, es, ep, (hs.2 L Ldx).trans e, t⟩
  · rw [setF_lookup] at hg
    by_cases z : g = f
    · subst z
      rw [if_pos rfl] at hg; cases hg
      exact ⟨v, by simp, r⟩
    · rw [if_neg z] at hg
      obtain ⟨u, z1, z2⟩ := m1 g q hg
      refine ⟨u, ?_, z2⟩
      rw [if_neg (names_apart c c9 g (M.mem g q hg) f hf z)]
      exact z1
  · have hyf : nm f ≠ y := hy f p (by rw [setF_lookup, if_pos rfl])
    rw [if_neg (Ne.symm hyf)]
    refine m2 y fun g q hg => ?_
    by_cases z : g = f
    · subst z; exact hyf
    · exact hy g q (by rw [setF_lookup, if_neg z]; exact hg)
  · rw [setF_lookup] at hg
    by_cases z : g = f
    · rw [z]; exact hf
    · rw [if_neg z] at hg; exact M.mem g q hg

theorem ini_run {A : Around} {B : Heap} {ρ : Rho} {c : Nat} {s₀ : Shared} {x dx : Addr} {cc : Act} {as : List PV} {vs : List V} {mL : Str → Option V} {E : V → Shared → Prop} (fa : Fa K a) (c9 : c < 9) (X : K.In s₀.heap) (kind : cc.sc.kind = .function) (hdx : s₀.heap.get? dx = none) (xdx : x ≠ dx) (Ldx : cc.L ≠ dx)
    (hself : ∀ y, cc.names[0]? = some y → mL y = some (.ref x)) (hpar : ∀ (i : Nat) y v, cc.names[i + 1]? = some y → vs[i]? = some v → mL y = some v) (r : Reps a B ρ as vs) :
    ∀ (l : List (Nat × Ini)) (body : List XS) (fs fs' : List (Nat × PV)) (k : Nat) (s : Shared) (Q : PySem.Flow → Shared → Prop), isIni cc.S l body = true → (∀ e ∈ l, e.1 ∈ fieldsOf c) → k + l.length ≤ 8 → mkFs as l fs = some fs' → Making B ρ a c s₀ s x dx cc.L mL k fs →
      (∀ k' s', k' ≤ 8 → Making B ρ a c s₀ s' x dx cc.L mL k' fs' → Q .next s') → wpAny (model P w) A (execs body cc.env) Q E s
  | [], body, fs, fs', k, s, Q, hi, _, hk, hm, M, h => by
    cases body with
    | cons _ _ => exact absurd hi Bool.false_ne_true
    | nil =>
      cases hm
      exact wpAny_execs_nil (h k s (by simpa using hk) M)
  | (f, src) :: l, body, fs, fs', k, s, Q, hi, hf, hk, hm, M, h => by
    obtain ⟨y, yp, ap, v, pos, q, h2, h3, h4, h5⟩ := isIni_cons hi
    clear hi
    replace hm : (match iniV as src with | some v => mkFs as l (setF f v fs) | none => none) = some fs' := hm
    cases hp : iniV as src with
    | none => rw [hp] at hm; cases hm
    | some p =>
      rw [hp] at hm
      dsimp only at hm
      obtain ⟨l3, l4⟩ := lcl_is h3
      have hff : f ∈ fieldsOf c := hf (f, src) (.head _)
      have fin : ∀ u tk, RepV a.cls B ρ p u → wpAny (model P w) A (eval (.Name y yp) cc.env) (fun ov s₂ => wpAny (model P w) A (setAttr ov (nm f) u) (fun _ s₃ => wpAny (model P w) A (execs q cc.env) Q E s₃) E s₂) E { s with toks := tk } := fun u tk ru => by
        refine wpAny_Name (wpAny_loadName_local kind l3 M.nL (hself y h2) ?_) l4
        obtain ⟨m, n1, n2, n3⟩ := M.dict
        refine setAttr_ok fa (s := { s with toks := tk }) (X.keeps M.keeps) c9 M.at_ rfl rfl rfl n1 (by simp only [List.length_cons] at hk; lia) (fa.attr c f c9 hff).2 fun h' hn hs tk' => ?_
        have M' := M.set (tk := tk') c9 hdx xdx Ldx hff n2 n3 ru hn hs
        refine ini_run fa c9 X kind hdx xdx Ldx hself hpar r l q _ fs' _ _ Q h4 (fun e he => hf e (.tail _ he)) ?_ hm M' h
        simp only [List.length_cons] at hk
        split <;> lia
      refine wpAny_execs_cons ?_
      cases src with
      | par j =>
        obtain ⟨⟨⟨z, zp⟩, e0⟩, g0⟩ := any_inv h5
        dsimp only at e0 g0
        subst e0
        obtain ⟨g1, g0⟩ := and_inv g0
        obtain ⟨g2, g3⟩ := and_inv g0
        replace g1 := dec_inv g1
        replace g2 := dec_inv g2
        obtain ⟨i3, i4⟩ := lcl_is g3
        obtain ⟨i, rfl⟩ : ∃ i, j = i + 1 := ⟨j - 1, by lia⟩
        have hp' : as[i]? = some p := hp
        have hiv : i < vs.length := by rw [← r.1]; exact (List.getElem?_eq_some_iff.mp hp').1
        refine plainObj_wpAny_Assign_Attribute (wpAny_Name (wpAny_loadName_local kind i3 M.nL (hpar i z _ g2 (List.getElem?_eq_getElem hiv)) ?_) i4) rfl
        exact fin _ s.toks (r.2 i _ _ hp' (List.getElem?_eq_getElem hiv))
      | int i =>
        obtain ⟨⟨⟨j, k0, p0⟩, e0⟩, g0⟩ := any_inv h5
        dsimp only at e0 g0
        subst e0
        have := dec_inv g0
        subst this
        have hp' : PV.int i = p := Option.some.inj hp
        subst hp'
        exact plainObj_wpAny_Assign_Attribute (wpAny_Constant_int (fin _ _ (.int ..))) rfl
      | str t =>
        obtain ⟨k0, p0⟩ := isStrX_inv h5
        have hp' : PV.str t = p := Option.some.inj hp
        subst hp'
        exact plainObj_wpAny_Assign_Attribute (Constant_str (fin _ _ (.str ..))) rfl
end
end Mine
end
section
open PySem PySem.W PyProof.Rows PySem.Calls
namespace Mine
section
variable {P : Program} {w : World} {K : Frag} {a : Adr} {d : Nat}

theorem iniTab_ok : ∀ c, c < 9 → ∀ n l, initTab c = some (n, l) → l.length ≤ 8 ∧ ∀ e ∈ l, e.1 ∈ fieldsOf c := by
  intro c hc n l e
  unfold fieldsOf
  rw [e]
  refine ⟨?_, fun x hx => List.mem_map.mpr ⟨x, hx, rfl⟩⟩
  unfold initTab at e
  split at e <;> first | (cases e; decide) | cases e
theorem c9_of {c n : Nat} {l : List (Nat × Ini)} (e : initTab c = some (n, l)) : c < 9 := by
  unfold initTab at e
  split at e <;> first | decide | cases e

set_option tactic.hygienic true in
theorem make_ok {A : Around} {fr : List Env} {B : Heap} {ρ : Rho} {σ : Store} {c : Nat} {as : List PV} {fs : List (Nat × PV)} {vs : List V} {R : Result → Shared → Prop} {s : Shared} (fa : Fa K a) (ar : Ar A fr d) (S : St a.cls K fr B ρ σ s.heap) (r : Reps a B ρ as vs) (hm : mkFields c as = some fs)
    (h : ∀ x dx L mL k s', x ≠ dx → s.heap.get? x = none → s.heap.get? dx = none → k ≤ 8 → Making B ρ a c s s' x dx L mL k fs → R (.ok (.ret (.ref x))) s') : codeAny (model P w) A (.call (.ref (a.cls c)) ⟨vs, []⟩) R s := by
  unfold mkFields at hm
  split at hm
  · rename_i n l e
    split at hm
    · rename_i hn
      have c9 := c9_of e
      obtain ⟨hl1, hl2⟩ := iniTab_ok c c9 n l e
      obtain ⟨mk, fI, name, qual, ps, body, sc, doc, pm, cdv, ct, oc, an, od, osl, f1, f2, ho, hcd, hlen, hnd, hloc, hcell, hco, hgen, hkind, hbody⟩ := fa.ini c n l e
      have X := S.kin.keeps S.stays
      obtain ⟨hh, g, dr, t, os⟩ := s
      refine make_core (makes_of X mk) (looks_findIn X f1) (fun self => bind_fn X self f2) (.inl rfl) ?_
      have k0 : ∀ b o, hh.get? b = some o → ((hh.push emptyDict).push (instObj (a.cls c) hh.objs.size)).get? b = some o := fun b o e => Heap.get?_push_of_some _ (Heap.get?_push_of_some _ e)
      have hx0 : ((hh.push emptyDict).push (instObj (a.cls c) hh.objs.size)).get? (hh.objs.size + 1) = some (instObj (a.cls c) hh.objs.size) := by heap_get
      have hd0 : ((hh.push emptyDict).push (instObj (a.cls c) hh.objs.size)).get? hh.objs.size = some emptyDict := Heap.get?_push_of_some _ (Heap.get?_push_size _ rfl)
      have hsz : ((hh.push emptyDict).push (instObj (a.cls c) hh.objs.size)).objs.size = hh.objs.size + 2 := by rw [Heap.size_push, Heap.size_push]
      have ev : ps.length = (Value.ref (hh.objs.size + 1) :: vs).length := by rw [List.length_cons, ← r.1, hlen, hn]
      have room : (A.under (.builtin "type.__call__" ⟨.ref (a.cls c) :: vs, []⟩)).depth < recursionLimit := by
        have := ar.room
        have wt : Code.weight (.builtin "type.__call__" ⟨.ref (a.cls c) :: vs, []⟩) = 1 := by
          show Code.frames _ + _ + _ + _ = 1
          rfl
        show A.depth + Code.weight _ < _
        rw [wt]; lia
      refine codeAny_call_def (fd := fnOf name qual ⟨[], ps, none, [], [], none, []⟩ body sc .none .none doc pm an cdv ct) (body := body) (binds := (ps.map (·.arg)).zip (Value.ref (hh.objs.size + 1) :: vs)) room (k0 _ _ (X _ _ ho)) rfl
        (((fa.lim B S.kin).keeps S.stays).keeps k0) ((codeRec_of X hcd).keeps k0) rfl (.of_eq (bind_plain ev hnd)) hcell (fun y hy => hloc y.1 (List.of_mem_zip hy).1) (fun h₁ hns k => ?_) hco hgen hkind
      rw [hsz] at hns ⊢
      have e' : (ps.map (·.arg)).length = (Value.ref (hh.objs.size + 1) :: vs).length := by rw [List.length_map]; exact ev
      have lk : ∀ (i : Nat) y v, (ps.map (·.arg))[i]? = some y → (Value.ref (hh.objs.size + 1) :: vs)[i]? = some v → ((ps.map (·.arg)).zip (Value.ref (hh.objs.size + 1) :: vs)).reverse.lookup y = some v := fun i y v h1 h2 => bind_lookup hnd e' h1 h2
      have M0 : Making B ρ a c ⟨hh, g, dr, t, os⟩ ⟨h₁, g, dr, t + ((ps.map (·.arg)).zip (Value.ref (hh.objs.size + 1) :: vs)).length, os⟩ (hh.objs.size + 1) hh.objs.size (hh.objs.size + 2) _ 0 [] :=
        ⟨fun b o e => k b o (k0 b o e), rfl, rfl, k _ _ hx0, hns, ⟨fun _ => none, ⟨emptyDict, #[], 0, k _ _ hd0, rfl, fun e he => by simp at he, fun _ => rfl, Nat.le_refl _⟩, fun f p hf => by simp at hf, fun _ _ => rfl⟩, fun f p hf => by simp at hf⟩
      refine ini_run (K := K) (cc := ⟨qual, sc, hh.objs.size + 2, fI, cdv, fr, ps.map (·.arg)⟩) fa c9 X hkind (get?_size hh) (Nat.succ_ne_self _) (show hh.objs.size + 2 ≠ hh.objs.size by lia) (fun y hy => lk 0 y _ hy rfl) (fun i y v h1 h2 => lk (i + 1) y v h1 (by simpa using h2)) r l body [] fs 0 _ _ hbody hl2 (by lia) hm M0 fun k' s' hk M => ?_
      refine ⟨rfl, h _ _ _ _ k' s' (Nat.succ_ne_self _) ?_ (get?_size hh) hk M⟩
      cases q : hh.get? (hh.objs.size + 1) with
      | none => rfl
      | some o => exact absurd (Heap.lt_size q) (Nat.not_lt.mpr (Nat.le_succ _))
    · cases hm
  · cases hm

theorem cls_name {c : Act} {A : Around} {B : Heap} {s : Shared} {k : Nat} {l : List Nat} {as : List E} {es : List XE} {xp pos : Pos} {Q : V → Shared → Prop} {E' : V → Shared → Prop} (ao : ActOk K a c) (kin : K.In B) (hs : B.StaysIn s.heap) (hk : k < 9) (hl : clsName k = some l) (hg : c.S.glb (Mine.st l) = true) (hi : isEs c.S as es = true)
    (h : wpAny (model P w) A (spliced (backTo pos (starEach es c.env))) (fun vs s₁ => K.In s₁.heap ∧ wpAny (model P w) A (call (.ref (a.cls k)) vs) Q E' s₁) E' s) :
    wpAny (model P w) A (eval (.Call (.Name (Mine.st l) xp) es [] pos) c.env) Q E' s := by
  obtain ⟨mg, mb, N⟩ := ao.fa.names B kin
  refine Call_Name rfl (ld_glob ao hg hs N (N.cls k l hl) ?_)
  exact callWith_all hi (ao.fa.keepC k hk) h
theorem cls9 {k : Nat} {l : List Nat} (h : clsName k = some l) : k < 9 := by
  unfold clsName at h
  split at h <;> first | decide | cases h
theorem x_mk {σ σ₁ : Store} {l : Loc} {k : Nat} {as : List E} (hx : Good P w K a d (.es as l σ) (.exc σ₁)) : Good P w K a d (.e (.mk k as) l σ) (.exc σ₁) := by
  intro c e A B ρ s ao hi ar st Q E h
  obtain ⟨n, xp, es, pos, i1, i2, i3⟩ := isE_mk hi
  exact cls_name ao st.1.kin st.1.stays (cls9 i1) i1 i2 i3 (hx c es pos A B ρ s ao i3 ar st _ _ h)

set_option tactic.hygienic true in
theorem g_mk {σ σ₁ σ₂ : Store} {l : Loc} {k : Nat} {as : List E} {ps : List PV} {p : PV} (hx : Good P w K a d (.es as l σ) (.vs ps σ₁)) (hm : mkV k ps σ₁ = some (.v p σ₂)) : Good P w K a d (.e (.mk k as) l σ) (.v p σ₂) := by
  intro c e A B ρ s ao hi ar st
  obtain ⟨n, xp, es, pos, i1, i2, i3⟩ := isE_mk hi
  obtain ⟨fs, hf, hv⟩ : ∃ fs, mkFields k ps = some fs ∧ (if changes k then some (Out.v (.ref σ₁.length) (σ₁ ++ [.inst k fs])) else some (Out.v (.inst k fs) σ₁)) = some (Out.v p σ₂) := by
    unfold mkV at hm
    split at hm
    · rename_i fs q; exact ⟨fs, q, hm⟩
    · cases hm
  have c9 := cls9 i1
  have ev : ∀ Q E, (∀ v s', OkE K a c.fr B ρ s p σ₂ v s' → Q v s') → wpAny (model P w) A (eval (.Call (.Name (Mine.st n) xp) es [] pos) c.env) Q E s := fun Q E h => by
    refine cls_name ao st.1.kin st.1.stays c9 i1 i2 i3 (hx.2 c es pos A B ρ s ao i3 ar st _ _ fun vs s₁ ⟨B₁, ρ₁, t₁, S₁, r₁⟩ => ⟨S₁.kin.keeps S₁.stays, ?_⟩)
    refine wpAny_call (make_ok ao.fa ar S₁ r₁ hf fun x dx L mL k' s' hne hx0 hd0 hk' M => ?_)
    obtain ⟨m, n1, n2, n3⟩ := M.dict
    split at hv
    · cases hv
      have n1' : NsN s'.heap dx 8 m := let ⟨o, es, ep, q1, q2, q3, q4, q5⟩ := n1; ⟨o, es, ep, q1, q2, q3, q4, Nat.le_trans q5 hk'⟩
      obtain ⟨t₂, S₂⟩ := S₁.made (s' := s') M.keeps hx0 hd0 (o := .inst k fs)
        ⟨c9, M.mem, _, m, M.at_, rfl, rfl, rfl, n1', fun f p hf => let ⟨v, a1, a2⟩ := n2 f p hf; ⟨v, a1, a2.mono (fun _ _ e => e) (List.prefix_append _ _)⟩, n3⟩ M.os M.gens (frs c.fr) (frs c.fr)
      exact h _ _ ⟨_, _, t₁.trans t₂, S₂, .ref (d := dx) (by rw [List.getElem?_append_right (by rw [S₁.len]; exact Nat.le_refl _), S₁.len, Nat.sub_self]; rfl)⟩
    · cases hv
      obtain ⟨t₂, S₂⟩ := S₁.known (s' := s') M.keeps [x, dx] (fun b hb => by rcases List.mem_cons.mp hb with rfl | hb; exact hx0; rw [List.mem_singleton.mp hb]; exact hd0) M.os M.gens (frs c.fr) (frs c.fr)
      obtain ⟨od, es', ep, q1, q2, q3, q4, q5⟩ := n1
      refine h _ _ ⟨_, _, t₁.trans t₂, S₂, ?_⟩
      refine .inst (m := m) (val := fun f => (m (nm f)).getD .none) c9 M.mem (growH_in M.at_ (.inr (.head _))) rfl rfl rfl ⟨od, es', ep, growH_in q1 (.inr (.tail _ (.head _))), q2, q3, q4⟩ (fun f p hf => ?_) n3 (fun f p hf => ?_)
      · obtain ⟨v, a1, a2⟩ := n2 f p hf
        rw [a1]; rfl
      · obtain ⟨v, a1, a2⟩ := n2 f p hf
        rw [a1]
        exact a2.mono t₂.base t₂.pre
  exact ⟨ev, test_of rfl ev⟩
end
end Mine
end
section
open PySem PySem.W PySem.Calls Builtin
set_option maxRecDepth 100000
namespace Mine
section
variable {P : Program} {w : World} {K : Frag} {a : Adr}
variable {A : Around} {E : V → Shared → Prop} {R : Result → Shared → Prop} {h : Heap} {g : Array GenState} {d : Drawn} {t : Nat} {os : OsState}
variable {nm q : Str} {C N : Addr} {bs bm : List Value} {hdct : Bool} {sn : List Str} {sub : List Value} {ab : Bool} {col : Option Bool} {dd : Option Addr} {k0 k1 k2 k3 k5 : Option Value}

theorem check_new' {M : Model} {rest : List V} {Q : Unit → Shared → Prop} (hcont : (Value.ref C :: bm).contains (.type "Exception") = true) (hC : h.get? C = some (excClassObj nm q C N bs bm hdct sn sub ab col dd k0 k1 k2 k3 k5 "Exception.__new__"))
    (hq : Q () ⟨h, g, d, t, os⟩) : wpAny M A (checkBuiltinCall "Exception.__new__" ⟨.ref C :: rest, []⟩) Q E ⟨h, g, d, t, os⟩ := by
  have Fn := PySem.F.excBase_Exception
  have hstar := Fn.noStar
  simp only [checkBuiltinCall, Fn.newKind, Fn.newSplit, Fn.newRow]
  repeat (first | refine wpAny_loadPart_at hC ?_ | (refine wpAny_isSubtype_exc hC ?_; rw [hcont]) | refine wpAny_staticBase_exc hC ?_ | refine wpAny_madeBy_exc hC ?_ | simp only [bne_self_eq_false, Bool.false_eq_true, if_false] | wp_step)
  exact hq

theorem exc_new' {rest : List V} (hcB : (Value.ref C :: bm).contains (.type "Exception") = true) (hcA : (Value.ref C :: bm).contains (.type "AttributeError") = false) (hcN : (Value.ref C :: bm).contains (.type "NameError") = false) (hC : h.get? C = some (excClassObj nm q C N bs bm hdct sn sub ab col dd k0 k1 k2 k3 k5 "Exception.__new__"))
    (hq : R (.ok (.ret (.ref (h.objs.size + 1)))) ⟨(h.push { cls := .type "tuple", data := .seq rest.toArray }).push
      { cls := .ref C, data := .fields #[.ref h.objs.size, .none, .none, .none, .bool false, .none] }, g, d, t, os⟩) (hrest : rest.length ≤ sizeLine) :
    codeAny (model P w) A (.builtin "Exception.__new__" ⟨.ref C :: rest, []⟩) R ⟨h, g, d, t, os⟩ := by
  have Fn := PySem.F.excBase_Exception
  have hends := Fn.ends
  refine codeAny_builtinAt Fn.entry ?_
  unfold Builtin.«BaseException.__new__»
  refine wpAt_bind ?_
  show wpAt _ _ _ (stack >>= _) _ _ _
  refine wpAt_bind (wpAt_stack fun p below => wpAt_of_wpAny ?_)
  wp_walk
  refine wpAt_of_wpAny ?_
  rw [Fn.owner]
  repeat (first | with_reducible refine wpAny_madeHere_exc Fn.canon hC ?_ | with_reducible refine wpAny_loadPart_at hC ?_ | (with_reducible refine wpAny_isSubtype_exc hC ?_; first | rw [hcB] | rw [hcA] | rw [hcN]) | wp_step)
  show R _ _
  rw [Heap.size_push]
  exact hq

theorem type_call' {rest : List V} {fI : Addr} {Q : Fin → Shared → Prop} (hcB : (Value.ref C :: bm).contains (.type "Exception") = true) (hcA : (Value.ref C :: bm).contains (.type "AttributeError") = false) (hcN : (Value.ref C :: bm).contains (.type "NameError") = false)
    (X : K.In h) (hC : h.get? C = some (excClassObj nm q C N bs bm hdct sn sub ab col dd k0 k1 k2 k3 k5 "Exception.__new__")) (hi : findIn K (.ref C) "__init__" = some (some (.ref fI))) (hf : typeIn K (.ref fI) = some (.type "function"))
    (hq : ∀ h' e, Heap.MadeExcOf h h' e (.ref C) rest →
      wpAny (model P w) A (call (.ref fI) (.ref e :: rest)) (fun r s' => r = .none ∧ Q (.done (.ret (.ref e))) s') E ⟨h', g, d, t, os⟩) (hrest : rest.length ≤ sizeLine) :
    wpAny (model P w) A (Builtin.«type.__call__» ⟨.ref C :: rest, []⟩) Q E ⟨h, g, d, t, os⟩ := by
  have Fn := PySem.F.excBase_Exception
  repeat (first | with_reducible refine wpAny_loadPart_at hC ?_ | with_reducible refine wpAny_madeBy_exc hC ?_ | wp_step)
  refine codeAny_call_builtin_code (Code.quiet_builtin _ Fn.quiet) (check_new' hcB hC ?_)
  refine exc_new' hcB hcA hcN hC ?_ hrest
  show wpAny _ _ _ _ _ _
  have hC₁ := Heap.get?_push_of_some { cls := .ref C, data := .fields #[.ref h.objs.size, .none, .none, .none, .bool false, .none] }
    (Heap.get?_push_of_some { cls := .type "tuple", data := .seq rest.toArray } hC)
  have k : ∀ b o, h.get? b = some o → ((h.push { cls := .type "tuple", data := .seq rest.toArray }).push { cls := .ref C, data := .fields #[.ref h.objs.size, .none, .none, .none, .bool false, .none] }).get? b = some o := fun b o e => Heap.get?_push_of_some _ (Heap.get?_push_of_some _ e)
  have hget : ((h.push { cls := .type "tuple", data := .seq rest.toArray }).push
      { cls := .ref C, data := .fields #[.ref h.objs.size, .none, .none, .none, .bool false, .none] }).get? (h.objs.size + 1) = some
      { cls := .ref C, data := .fields #[.ref h.objs.size, .none, .none, .none, .bool false, .none] } := by heap_get
  have hcC : (Value.ref C :: bm).contains (.ref C) = true := by simp
  unfold isInstance
  repeat (first | with_reducible refine wpAny_loadPart_at hget ?_ | (with_reducible refine wpAny_isSubtype_exc hC₁ ?_; rw [hcC]) | wp_step)
  show wpAny _ _ (typeLookup (.ref C) _) _ _ _
  refine Looks.here (s := ⟨_, g, d, t, os⟩) (looks_findIn (X.keeps k) hi) ?_
  refine wpAny_holding (wpAny_bind ?_)
  refine Looks.here (s := ⟨_, g, d, t, os⟩) (bind_fn (X.keeps k) _ hf) ?_
  refine wpAny_bind (wpAny_mono (hq _ (h.objs.size + 1) ⟨k, Heap.get?_none_of_le (Nat.le_succ _), h.objs.size, hget, Heap.get?_none_of_le (Nat.le_refl _), ?_⟩) (fun r s' hr => ?_) fun _ _ x => x)
  · exact Heap.get?_push_of_some _ (Heap.get?_push_at rfl rfl)
  · obtain ⟨rfl, hQ⟩ := hr
    wp_walk
    exact hQ

theorem call_exc' {rest : List V} {fI : Addr} {Q : V → Shared → Prop} (hcB : (Value.ref C :: bm).contains (.type "Exception") = true) (hcA : (Value.ref C :: bm).contains (.type "AttributeError") = false) (hcN : (Value.ref C :: bm).contains (.type "NameError") = false)
    (X : K.In h) (hC : h.get? C = some (excClassObj nm q C N bs bm hdct sn sub ab col dd k0 k1 k2 k3 k5 "Exception.__new__")) (hi : findIn K (.ref C) "__init__" = some (some (.ref fI))) (hf : typeIn K (.ref fI) = some (.type "function"))
    (hq : ∀ h' e, Heap.MadeExcOf h h' e (.ref C) rest →
      wpAny (model P w) (A.under (.builtin "type.__call__" ⟨.ref C :: rest, []⟩)) (call (.ref fI) (.ref e :: rest)) (fun r s' => r = .none ∧ Q (.ref e) s') E ⟨h', g, d, t, os⟩) (hrest : rest.length ≤ sizeLine) :
    wpAny (model P w) A (call (.ref C) rest) Q E ⟨h, g, d, t, os⟩ := by
  have f1 := tc_lookup
  have f2 := tc_bind (.ref C)
  have hT : (⟨h, g, d, t, os⟩ : Shared).TypeIs (.ref C) "type" := ⟨_, hC, rfl⟩
  refine wpAny_call (codeAny_of_tree ?_)
  show wpAny _ _ (callAny (.ref C) _) _ _ _
  repeat (any_goals (first | assumption | with_reducible refine wpAny_loadPart_at hC ?_ | wp_step))
  refine ⟨rfl, ?_⟩
  refine codeAny_call_builtin_at (Code.quiet_builtin _ (by decide +kernel)) entry_typeCall (wpAny_check_type_call_sub hC (type_call' hcB hcA hcN X hC hi hf (fun h' e hm => ?_) hrest))
  exact hq h' e hm
end
end Mine
end
section
open PySem PySem.W PySem.Calls Builtin
set_option maxRecDepth 100000
namespace Mine

set_option tactic.hygienic true in
theorem refuse_exc (self : V) : ∀ {l : List V}, excOnly l = true → PySem.refuseLoop self "__setattr__" l = pure ()
  | [], e => by cases e
  | v :: r, e => by
    unfold excOnly at e
    split at e
    · rename_i a b c q
      simp only [Bool.and_eq_true, beq_iff_eq] at e
      obtain ⟨⟨rfl, rfl⟩, rfl⟩ := e
      rw [q]
      exact PySem.F.store_Exception.passes self
    · rename_i q
      cases q
      rw [PySem.refuseLoop_ref]; exact refuse_exc self e
    · cases e
set_option tactic.hygienic true in
theorem exc_has : ∀ {l : List V}, excOnly l = true → l.contains (.type "object") = true
  | [], e => by cases e
  | v :: r, e => by
    unfold excOnly at e
    split at e
    · rename_i a b c q
      simp only [Bool.and_eq_true, beq_iff_eq] at e
      obtain ⟨⟨rfl, rfl⟩, rfl⟩ := e
      rw [q]
      decide
    · rename_i q
      cases q
      rw [List.contains_cons, exc_has e, Bool.or_true]
    · cases e

section
variable {prog : Program} {w : World} {K : Frag} {a : Adr} {A : Around} {C x : Addr} {s : Shared} {R : Result → Shared → Prop}

theorem exc_open {ox : Obj} {od : Option Obj} {name : Str} {tk : Tok} {v : V} {r : Option V} (X : K.In s.heap) (I : InstAt s.heap x ox C od) (hp : (clsIn K C).any (fun cd => excOnly cd.mro) = true) (ht : takerIn K C name = some r)
    (h : ∀ b, wpAny (model prog w) A.in1 (match r with | some a => ObjectAttr.setByDescriptor a (.ref x) v | none => ObjectAttr.storeInOwnDict (.ref x) (.ref C) (.str name tk) name v b)
      (fun fin s' => match fin with | .done f => R (.ok f) s' | .again c' => c'.quiet = true ∧ codeAny (model prog w) A c' R s') (fun e s' => R (.error e) s') s) :
    codeAny (model prog w) A (.call (.builtin "object.__setattr__") ⟨[.ref x, .str name tk, v], []⟩) R s := by
  have SF := PySem.F.store_object
  obtain ⟨cd, hc, ho⟩ := any_some hp
  have ne : cd.mro.isEmpty = false := by cases q : cd.mro with | nil => rw [q] at ho; cases ho | cons _ _ => rfl
  have sub : Looks (model prog w) s.heap (isInstance (.ref x) (.type "object")) true := I.type.andThen (looks_mroIn X (by unfold mroIn; rw [hc, Option.bind_some, if_neg (by rw [ne]; decide), exc_has ho]))
  refine codeAny_call_builtin SF.slot.plain SF.entry (@check_slot (model prog w) _ _ s "object.__setattr__" "object" "__setattr__" (.ref x) [.str name tk, v] [] _ SF.kind SF.split sub (SF.args (.ref x) (.str name tk) v) ?_)
  obtain ⟨attr, ha, hr⟩ := Option.bind_eq_some_iff.mp ht
  have hm : Looks (model prog w) s.heap (mroOf (.ref C)) cd.mro := (looks_clsIn X hc).andThen .now
  have L3 : Looks (model prog w) s.heap (PySem.Builtin.ObjectAttr.storeTaker? attr) r := by
    cases attr with
    | none => cases hr; exact .now
    | some a =>
      obtain ⟨b, hb, rfl⟩ := Option.map_eq_some_iff.mp hr
      refine (looks_takesIn X hb).andThen ?_
      cases b <;> exact .now
  rw [osa_eq, PySem.refuse_eq]
  refine wpAny_bind (wpAny_bind (I.type.here (wpAny_bind (hm.here ?_))))
  rw [refuse_exc _ ho]
  refine wpAny_pure (wpAny_bind (I.type.here (wpAny_bind ((looks_findIn X ha).here (wpAny_bind (L3.here ?_))))))
  exact h _

/-- an own exception on its way through its __init__ -/
structure ExcMk (C : Addr) (s₀ s : Shared) (e L : Addr) (mL : Str → Option V) (dxo : Option Addr) : Prop where
  keeps : ∀ b o, s₀.heap.get? b = some o → s.heap.get? b = some o
  os : s.os = s₀.os
  gens : s.gens = s₀.gens
  new : s₀.heap.get? e = none
  nL : s.heap.Ns L mL
  at_ : ∃ vs a0, s.heap.get? e = some { cls := .ref C, dict := dxo, data := .fields vs } ∧ vs[0]? = some a0 ∧ vs[1]? = some .none
  dict : ∀ dx, dxo = some dx → s₀.heap.get? dx = none ∧ dx ≠ e ∧ dx ≠ L ∧ ∃ m k, NsN s.heap dx k m ∧ k ≤ 1

theorem exc_set {s₀ : Shared} {L : Addr} {mL : Str → Option V} {name : Str} {v : V} {dxo : Option Addr} {Q : Unit → Shared → Prop} {E : V → Shared → Prop} (X : K.In s.heap) (M : ExcMk C s₀ s x L mL dxo) (Lx : L ≠ x)
    (hs : findIn K (.ref C) "__setattr__" = some (some (.builtin "object.__setattr__"))) (hp : (clsIn K C).any (fun cd => excOnly cd.mro) = true) (hh : hasDictIn K C = true) (ht : takerIn K C name = some none)
    (h : ∀ s' dx, (∀ b o, s₀.heap.get? b = some o → s'.heap.get? b = some o) → s'.os = s₀.os → s'.gens = s₀.gens → s'.heap.Ns L mL → (∃ vs a0, s'.heap.get? x = some { cls := .ref C, dict := some dx, data := .fields vs } ∧ vs[0]? = some a0 ∧ vs[1]? = some .none) → s₀.heap.get? dx = none → dx ≠ x → dx ≠ L →
      (∃ m k, NsN s'.heap dx k m ∧ (dxo = none → k ≤ 1)) → Q () s') : wpAny (model prog w) A (setAttr (.ref x) name v) Q E s := by
  obtain ⟨vs, a0, hx, h0, h1⟩ := M.at_
  obtain ⟨cd, hcd, hd'⟩ := any_some hh
  have L : Looks (model prog w) s.heap (classData C) cd := looks_clsIn X hcd
  cases dxo with
  | none =>
    have I : InstAt s.heap x { cls := .ref C, dict := none, data := .fields vs } C none := ⟨hx, rfl, rfl, trivial⟩
    refine set_plain X I hs (exc_open (s := { s with toks := s.toks + 1 }) X I hp ht fun b => ?_)
    refine wpAny_bind (wpAny_pure (wpAny_bind (wpAny_bind (wpAny_loadPart hx (wpAny_bind (Looks.here (s := { s with toks := s.toks + 1 }) L ?_))))))
    rw [hd']
    show wpAny (model prog w) A.in1 (alloc { cls := .type "dict", data := .dict #[] } >>= fun d => update x (fun o => { o with dict := some d }) >>= fun _ => pure (some d)) _ _ _
    refine wpAny_bind (wpAny_alloc ?_)
    have hx₁ : (s.heap.push { cls := .type "dict", data := .dict #[] }).get? x = some { cls := .ref C, dict := none, data := .fields vs } := Heap.get?_push_of_some _ hx
    have hxs : x ≠ s.heap.objs.size := Nat.ne_of_lt (Heap.lt_size hx)
    refine wpAny_bind (wpAny_update hx₁ (wpAny_pure ?_))
    show wpAny _ _ (ObjectAttr.storeInDict s.heap.objs.size _ name v) _ _ _
    have hgd : ((s.heap.push { cls := .type "dict", data := .dict #[] }).update x fun o => { o with dict := some s.heap.objs.size }).get? s.heap.objs.size = some { cls := .type "dict", data := .dict #[] } :=
      (Heap.get?_update_other _ _ hxs).trans (Heap.get?_push_at rfl rfl)
    have hn0 : NsN ((s.heap.push { cls := .type "dict", data := .dict #[] }).update x fun o => { o with dict := some s.heap.objs.size }) s.heap.objs.size 0 (fun _ => none) :=
      ⟨_, #[], 0, hgd, rfl, fun e he => by simp at he, fun _ => rfl, Nat.le_refl _⟩
    have hx₂ : ((s.heap.push { cls := .type "dict", data := .dict #[] }).update x fun o => { o with dict := some s.heap.objs.size }).get? x = some { cls := .ref C, dict := some s.heap.objs.size, data := .fields vs } :=
      Heap.get?_update_self _ hx₁ rfl
    have old : ∀ b o, b ≠ x → s.heap.get? b = some o → ((s.heap.push { cls := .type "dict", data := .dict #[] }).update x fun o => { o with dict := some s.heap.objs.size }).get? b = some o := fun b o n e =>
      (Heap.get?_update_other _ _ (Ne.symm n)).trans (Heap.get?_push_of_some _ e)
    have fresh : ∀ b o, s.heap.get? b = some o → b ≠ s.heap.objs.size := fun b o e => Nat.ne_of_lt (Heap.lt_size e)
    refine wpAny_bind (wpAny_pure (wpAny_bind ?_))
    refine nsSetN (s := { s with heap := _, toks := s.toks + 1 }) hn0 fun h' hn' hs' => ?_
    have hn'' := hn'
    obtain ⟨o', es', ep', q1, q2, q3, q4, q5⟩ := hn''
    refine wpAny_bind (wpAny_lookBehind q1 (by rw [q2]; exact pastItsLine_dict (by rw [sizeLine_eq]; split at q5 <;> lia)) ?_)
    have new : s₀.heap.get? s.heap.objs.size = none := by
      cases z : s₀.heap.get? s.heap.objs.size with
      | none => rfl
      | some o => exact absurd rfl (fresh _ o (M.keeps _ o z))
    refine wpAny_pure (h _ s.heap.objs.size (fun b o e => (hs'.2 b (fresh b o (M.keeps b o e))).trans (old b o (fun z => by rw [z, M.new] at e; cases e) (M.keeps b o e))) M.os M.gens ?_ ⟨vs, a0, (hs'.2 x hxs).trans hx₂, h0, h1⟩ new hxs.symm ?_ ⟨_, _, hn', fun _ => ?_⟩)
    · obtain ⟨o, es, ep, e, t⟩ := M.nL
      exact ⟨o, es, ep, (hs'.2 _ (fresh _ o e)).trans (old _ o Lx e), t⟩
    · obtain ⟨o, es, ep, e, t⟩ := M.nL
      exact (fresh _ o e).symm
    · split <;> lia
  | some dx =>
    obtain ⟨g1, g2, g3, m, k, g4, g5⟩ := M.dict dx rfl
    obtain ⟨od, l1, l2⟩ := lookIn_ns g4.ns name
    have I : InstAt s.heap x { cls := .ref C, dict := some dx, data := .fields vs } C (some od) := ⟨hx, rfl, rfl, l1⟩
    refine set_plain X I hs (exc_open (s := { s with toks := s.toks + 1 }) X I hp ht fun b => ?_)
    refine wpAny_bind (wpAny_pure (wpAny_bind (wpAny_bind (wpAny_loadPart hx (wpAny_bind (Looks.here (s := { s with toks := s.toks + 1 }) L ?_))))))
    rw [hd']
    refine wpAny_pure (a := some dx) (wpAny_bind (wpAny_pure (wpAny_bind ?_)))
    refine nsSetN (s := { s with toks := s.toks + 1 }) g4 fun h' hn' hs' => ?_
    have hn'' := hn'
    obtain ⟨o', es', ep', q1, q2, q3, q4, q5⟩ := hn''
    refine wpAny_bind (wpAny_lookBehind q1 (by rw [q2]; exact pastItsLine_dict (by rw [sizeLine_eq]; split at q5 <;> lia)) ?_)
    refine wpAny_pure (h _ dx (fun b o e => (hs'.2 b fun q => by rw [q, g1] at e; cases e).trans (M.keeps b o e)) M.os M.gens ?_ ⟨vs, a0, (hs'.2 x (Ne.symm g2)).trans hx, h0, h1⟩ g1 g2 g3 ⟨_, _, hn', fun z => by cases z⟩)
    obtain ⟨o, es, ep, e, t⟩ := M.nL
    exact ⟨o, es, ep, (hs'.2 _ (Ne.symm g3)).trans e, t⟩
end
end Mine
end
section
open PySem PySem.W PySem.Calls Builtin
set_option maxRecDepth 100000
namespace Mine
section
variable {P : Program} {w : World} {K : Frag} {a : Adr}
variable {A : Around} {E : V → Shared → Prop} {R : Result → Shared → Prop} {h : Heap} {g : Array GenState} {d : Drawn} {t : Nat} {os : OsState}
variable {nm q : Str} {C N : Addr} {bs bm : List Value} {hdct : Bool} {sn : List Str} {sub : List Value} {ab : Bool} {col : Option Bool} {dd : Option Addr} {k0 k1 k2 k3 k5 : Option Value}

theorem check_init' {M : Model} {e : Addr} {oe : Obj} {rest : List V} {Q : Unit → Shared → Prop} (hcB : (Value.ref C :: bm).contains (.type "Exception") = true)
    (hC : h.get? C = some (excClassObj nm q C N bs bm hdct sn sub ab col dd k0 k1 k2 k3 k5 "Exception.__new__")) (he : h.get? e = some oe) (hcls : oe.cls = .ref C) (hq : Q () ⟨h, g, d, t, os⟩) :
    wpAny M A (checkBuiltinCall "Exception.__init__" ⟨.ref e :: rest, []⟩) Q E ⟨h, g, d, t, os⟩ := by
  have F := PySem.F.excBase_Exception
  have hshort := F.noStar
  simp only [checkBuiltinCall, F.initKind, F.initSplit, F.initRow]
  repeat (first | (with_reducible refine wpAny_loadPart_at he ?_; rw [hcls]) | with_reducible refine wpAny_loadPart_at hC ?_ | (with_reducible refine wpAny_isSubtype_exc hC ?_; rw [hcB]) | wp_step)
  refine wpAny_onRaise ?_
  rw [show ∀ (a b : String) (n : Nat), Bind.check ⟨.positional, "*", "Exception", .self, [⟨"args", .varPos, false⟩]⟩ a b n (List.map (fun x => x.fst) ({ pos := Value.ref e :: rest } : Args).kw) = pure () from
    fun a b n => check_star_args _ _ _ _ _ _]
  exact wpAny_pure hq

theorem call_init' {s : Shared} {e : Addr} {ob : Obj} {vs : Array V} {a0 : V} {rest : List V} {Q : V → Shared → Prop} (hcB : (Value.ref C :: bm).contains (.type "Exception") = true)
    (hC : s.heap.get? C = some (excClassObj nm q C N bs bm hdct sn sub ab col dd k0 k1 k2 k3 k5 "Exception.__new__")) (he : s.heap.get? e = some ob) (hcls : ob.cls = .ref C) (hd : ob.data = .fields vs) (h0 : vs[0]? = some a0)
    (h : Q .none { s with heap := (s.heap.push { cls := .type "tuple", data := .seq rest.toArray }).update e (Obj.mapFields (·.setIfInBounds 0 (.ref s.heap.objs.size))) }) (hrest : rest.length ≤ sizeLine) :
    wpAny (model P w) A (call (.builtin "Exception.__init__") (.ref e :: rest)) Q E s := by
  have F := PySem.F.excBase_Exception
  refine wpAny_call (codeAny_call_builtin F.init.plain F.initEntry (check_init' (h := s.heap) (g := s.gens) (d := s.drawn) (t := s.toks) (os := s.os) hcB hC he hcls ?_))
  unfold Builtin.«BaseException.__init__»
  dsimp only
  rw [if_neg (by simp)]
  unfold newTuple Builtin.BaseException.bexcPut
  have hsz : 0 < vs.size := (Array.getElem?_eq_some_iff.mp h0).1
  have he₁ := Heap.get?_push_of_some (h := s.heap) { cls := .type "tuple", data := .seq rest.toArray } he
  refine wpAny_bind (wpAny_newObj_type (wpAny_bind (wpAny_bind (wpAny_field he₁ hd h0 (wpAny_bind (wpAny_setField he₁ hd hsz ?_))))) (by show rest.toArray.size ≤ sizeLine; rw [List.size_toArray]; exact hrest))
  cases a0 <;> first | exact wpAny_pure (wpAny_pure h) | exact wpAny_letGo (wpAny_pure h)

theorem method_type' {s : Shared} {T : String} {name : Str} {v : V} {pl : Sem Bool} {Q : Value × List Value → Shared → Prop} (X : K.In s.heap) (ht : typeOf (.type T) = pure (.type "type")) (hs : Manifest.isStub T = false)
    (e : findCls K (.type T) (.type "type") name = some (.val v)) (hh : handedIn v = true) (h : Q (v, []) { s with toks := s.toks + 1 }) : wpAny (model P w) A (getMethod (.type T) name pl) Q E s := by
  have hstub : opaqueClassAbove (.type T) = pure none := by unfold opaqueClassAbove; dsimp only; rw [hs]; rfl
  have L0 : Looks (model P w) s.heap (typeOf (.type T)) (.type "type") := Looks.of_pure ht
  have hg : findIn K (.type "type") "__getattribute__" = some (some (.builtin "type.__getattribute__")) := type_tga
  unfold getMethod specialOf
  refine wpAny_bind (wpAny_bind (L0.here ((looks_findIn X hg).here ?_)))
  dsimp only
  rw [if_pos canon_tga]
  refine wpAny_bind (wpAny_mono (Q := fun v => Q (v, [])) (E := E) ?_ (fun _ _ z => wpAny_pure z) fun _ _ z => z)
  have LO : Looks (model P w) s.heap (opaqueClassAbove (.type T)) none := Looks.of_pure hstub
  refine cls_open X LO L0 hg (looks_hook X (r := none) (by rfl)) (by show subIn K _ _ = _; rfl) e
    (wpAny_pure (by show wpAny _ _ (handedOut v) _ _ _; rw [handedOut_of hh]; exact wpAny_pure h))
theorem exc_init_find : findCls K (.type "Exception") (.type "type") "__init__" = some (.val (.builtin "Exception.__init__")) := by kernel_rfl
theorem exc_typeOf : typeOf (.type "Exception") = pure (.type "type") := by kernel_rfl
theorem exc_stub : Manifest.isStub "Exception" = false := by decide +kernel
end
end Mine
end
section
open PySem PySem.W PySem.Calls Builtin
open PyProof.Rows (Call_Name)
set_option maxRecDepth 100000
namespace Mine
section
variable {P : Program} {w : World} {K : Frag} {a : Adr} {d : Nat}

theorem err_bind {s : Shared} {name qual : Str} {p1 p2 p3 : Arg} {df : List XE} {body : List XS} {sc : Scope} {T : Addr} {oT : Obj} {x : V} {n : Nat} {doc pm cdv ct : V} {an : Option Addr} {v1 v2 v3 : V} (nd : [p1.arg, p2.arg, p3.arg].Nodup) (hT : s.heap.get? T = some oT) (hd : oT.data = .seq #[x] n) :
    BindsTo s (fnOf name qual ⟨[], [p1, p2, p3], none, [], [], none, df⟩ body sc (.ref T) .none doc pm an cdv ct) ⟨[v1, v2, v3], []⟩ [(p1.arg, v1), (p2.arg, v2), (p3.arg, v3)] := by
  intro M A E Q hq
  have e' : [p1.arg, p2.arg, p3.arg].length = [v1, v2, v3].length := rfl
  have fill := zip_fill [p1.arg, p2.arg, p3.arg] [v1, v2, v3] nd e'
  have l1 := zip_lookup_none [p1.arg, p2.arg, p3.arg] [v1, v2, v3] p1.arg e' (by simp)
  have l2 := zip_lookup_none [p1.arg, p2.arg, p3.arg] [v1, v2, v3] p2.arg e' (by simp)
  have l3 := zip_lookup_none [p1.arg, p2.arg, p3.arg] [v1, v2, v3] p3.arg e' (by simp)
  unfold bindArgs
  simp only [List.map_nil, List.nil_append, List.forIn_nil, pure_bind, List.map_cons]
  refine wpAny_bind (wpAny_seqItems hT hd ?_)
  have filt : (List.take 2 [p1.arg, p2.arg, p3.arg]).filter (fun n => (([p1.arg, p2.arg, p3.arg].zip [v1, v2, v3]).lookup n).isNone) = [] := by
    rw [List.filter_eq_nil_iff]
    intro n hn
    have : n = p1.arg ∨ n = p2.arg := by simpa using hn
    rcases this with rfl | rfl
    · rw [l1]; exact Bool.false_ne_true
    · rw [l2]; exact Bool.false_ne_true
  have g1 : (decide ([v1, v2, v3].length > [p1.arg, p2.arg, p3.arg].length) && (none : Option Arg).isNone) = false := rfl
  have g2 : (Option.getD (some #[x]) #[]).toList = [x] := rfl
  have g3 : List.drop ([x].length - [p1.arg, p2.arg, p3.arg].length) [x] = [x] := rfl
  have g4 : [p1.arg, p2.arg, p3.arg].length - [x].length = 2 := rfl
  have g5 : (List.drop 2 [p1.arg, p2.arg, p3.arg]).zip [x] = [(p3.arg, x)] := rfl
  simp only [g1, g2, g3, g4, filt, g5, Bool.false_eq_true, if_false, List.isEmpty_nil, Bool.not_true, List.forIn_cons, List.forIn_nil, pure_bind, l3, List.append_nil]
  rw [fill]
  exact wpAny_pure hq

theorem err_call {A : Around} {fr : List Env} {B : Heap} {ρ : Rho} {σ : Store} {s : Shared} {u v : V} {Q : V → Shared → Prop} {E : V → Shared → Prop} (fa : Fa K a) (ar : Ar A fr d) (S : St a.cls K fr B ρ σ s.heap)
    (h : ∀ e s', (∀ b o, s.heap.get? b = some o → s'.heap.get? b = some o) → s'.os = s.os → s'.gens = s.gens → s.heap.get? e = none → (∃ oe vs a0, s'.heap.get? e = some oe ∧ oe.cls = .ref a.err ∧ oe.data = .fields vs ∧ vs[0]? = some a0 ∧ vs[1]? = some .none) → Q (.ref e) s') :
    wpAny (model P w) A (call (.ref a.err) [u, v]) Q E s := by
  obtain ⟨nm, q, N, bs, bm, hdct, sn, sub, ab, col, dd, k0, k1, k2, k3, k5, hC, hcB, hcA, hcN, hcE⟩ := fa.err.cls
  obtain ⟨fI, name, qual, p1, p2, p3, df, body, sc, T, oT, x, n, doc, pm, cdv, ct, oc, an, od, osl, f1, f2, ho, hcd, hT, hTd, hnd, hloc, hcell, hco, hgen, hkind, hbody⟩ := fa.err.ini
  obtain ⟨xp, ap, s1, s1p, w1, w1p, pos, pos1, s2p, t1, w2p, pos2, s3p, t2, a1, a1p, pos3, g1, g2, g3, g4, g5, g6⟩ := isErrIni_is hbody
  have X := S.kin.keeps S.stays
  obtain ⟨hh, g, dr, t, os⟩ := s
  refine call_exc' (h := hh) (g := g) (d := dr) (t := t) (os := os) hcB hcA hcN X (X _ _ hC) f1 f2 (fun h' e M => ?_) (by rw [sizeLine_eq]; show 2 ≤ 16777216; lia)
  obtain ⟨t0, he, ht0, ht1⟩ := M.there
  have k0' : ∀ b o, hh.get? b = some o → h'.get? b = some o := M.keeps
  have X' : K.In h' := X.keeps k0'
  have room : (A.under (.builtin "type.__call__" ⟨.ref a.err :: [u, v], []⟩)).depth < recursionLimit := by
    have := ar.room
    have wt : Code.weight (.builtin "type.__call__" ⟨.ref a.err :: [u, v], []⟩) = 1 := by
      show Code.frames _ + _ + _ + _ = 1
      rfl
    show A.depth + Code.weight _ < _
    rw [wt]; lia
  refine wpAny_call (codeAny_call_def (fd := fnOf name qual ⟨[], [p1, p2, p3], none, [], [], none, df⟩ _ sc (.ref T) .none doc pm an cdv ct) (binds := [(p1.arg, .ref e), (p2.arg, u), (p3.arg, v)]) room (X' _ _ ho) rfl
    (((fa.lim B S.kin).keeps S.stays).keeps k0') (codeRec_of X' hcd) rfl (err_bind hnd (X' _ _ hT) hTd) hcell (fun y hy => hloc y.1 ?_) (fun h₁ hns k => ?_) hco hgen hkind)
  · have : y = (p1.arg, Value.ref e) ∨ y = (p2.arg, u) ∨ y = (p3.arg, v) := by simpa using hy
    rcases this with rfl | rfl | rfl <;> simp
  have lk : ∀ (i : Nat) y z, [p1.arg, p2.arg, p3.arg][i]? = some y → [Value.ref e, u, v][i]? = some z → [(p1.arg, Value.ref e), (p2.arg, u), (p3.arg, v)].reverse.lookup y = some z := fun i y z h1 h2 => bind_lookup (vs := [Value.ref e, u, v]) hnd rfl h1 h2
  injection g2 with g21 g22
  injection g22 with g22 g23
  injection g23 with g23 _
  have m1 := lk 0 p1.arg _ rfl rfl
  have m2 := lk 1 p2.arg _ rfl rfl
  have m3 := lk 2 p3.arg _ rfl rfl
  generalize hmL : (fun x => [(p1.arg, Value.ref e), (p2.arg, u), (p3.arg, v)].reverse.lookup x) = mL at hns
  have m1' : mL s1 = some (.ref e) := by rw [← hmL, ← g21]; exact m1
  have m2' : mL w1 = some u := by rw [← hmL, ← g22]; exact m2
  have m3' : mL a1 = some v := by rw [← hmL, ← g23]; exact m3
  let c : Act := ⟨qual, sc, h'.objs.size, fI, cdv, fr, [p1.arg, p2.arg, p3.arg]⟩
  have hk : c.env.scope.kind = .function := hkind
  have notI : interactive c.env = false := by unfold interactive; rw [hk]; rfl
  have eL : h'.objs.size ≠ e := (Nat.ne_of_lt (Heap.lt_size he)).symm
  have k1 : ∀ b o, hh.get? b = some o → h₁.get? b = some o := fun b o z => k b o (k0' b o z)
  have he₁ := k _ _ he
  obtain ⟨mg, mb, Nm⟩ := fa.names B S.kin
  have sB : B.StaysIn h₁ := fun b o z => k1 b o (S.stays b o z)
  obtain ⟨l1, l1d⟩ := lcl_is (c := c) g3
  obtain ⟨l2, l2d⟩ := lcl_is (c := c) g4
  obtain ⟨l3, l3d⟩ := lcl_is (c := c) g5
  obtain ⟨gx, gxd⟩ := glb_is (c := c) g1
  have hi : isEs c.S [.loc 0, .loc 1] [.Name s1 s1p, .Name w1 w1p] = true := by
    have n0 : c.S.names[0]? = some s1 := by show [p1.arg, p2.arg, p3.arg][0]? = _; rw [← g21]; rfl
    have n1 : c.S.names[1]? = some w1 := by show [p1.arg, p2.arg, p3.arg][1]? = _; rw [← g22]; rfl
    exact isEs_of (isE_of_loc n0 g3) rfl (isEs_of (isE_of_loc n1 g4) rfl rfl)
  show wpAny _ _ (execs _ c.env) _ _ _
  -- Exception.__init__(self, what)
  refine wpAny_execs_cons (wpAny_Expr_any (meth_open (c := c) rfl hi g6 (by show 2 < 29; decide) (Name_function_global hk gx (loadGlobal_builtin (env := c.env) (Nm.g.keeps sB) Nm.exc.1 (Nm.b.keeps sB) Nm.exc.2 fun pl => ?_) gxd)) notI rfl)
  refine method_type' (X.keeps k1) exc_typeOf exc_stub exc_init_find rfl ?_
  refine callWith_builtin (args_plain (c := c) hi) (evalArgs_all (c := c) hi ?_)
  refine PyProof.Rows.args_cons (wpAny_Name (wpAny_loadName_local hk l1 hns m1' ?_) l1d) rfl
  refine PyProof.Rows.args_cons (wpAny_Name (wpAny_loadName_local hk l2 hns m2' ?_) l2d) rfl
  refine PyProof.Rows.args_nil ?_
  show wpAny _ _ (call (.builtin "Exception.__init__") (.ref e :: [u])) _ _ _
  refine call_init' hcB (X.keeps k1 _ _ hC) he₁ rfl rfl (a0 := .ref t0) rfl ?_ (by rw [sizeLine_eq]; show 1 ≤ 16777216; lia)
  have M₂ : ∀ tk, ExcMk a.err ⟨hh, g, dr, t, os⟩ ⟨(h₁.push { cls := .type "tuple", data := .seq [u].toArray }).update e (Obj.mapFields (·.setIfInBounds 0 (.ref h₁.objs.size))), g, dr, tk, os⟩ e h'.objs.size mL none := fun tk =>
    { keeps := fun b o z => (Heap.get?_update_other _ _ (fun w => by rw [← w, show hh.get? e = none from M.new] at z; cases z)).trans (Heap.get?_push_of_some _ (k1 b o z))
      os := rfl
      gens := rfl
      new := M.new
      nL := by
        obtain ⟨o, es, ep, z, r⟩ := hns
        exact ⟨o, es, ep, (Heap.get?_update_other _ _ (Ne.symm eL)).trans (Heap.get?_push_of_some _ z), r⟩
      at_ := ⟨_, _, Heap.get?_update_self _ (Heap.get?_push_of_some _ he₁) rfl, rfl, rfl⟩
      dict := fun dx z => by cases z }
  show wpAny _ _ (execs _ c.env) _ _ _
  -- self.what = what
  refine wpAny_execs_cons (plainObj_wpAny_Assign_Attribute (wpAny_Name (wpAny_loadName_local hk l2 (M₂ _).nL m2' ?_) l2d) rfl)
  refine wpAny_Name (wpAny_loadName_local hk l1 (M₂ _).nL m1' ?_) l1d
  refine exc_set (X.keeps (M₂ _).keeps) (M₂ _) eL fa.err.set fa.err.only fa.err.dict fa.err.t1 fun s₃ dx q1 q2 q3 q4 q5 q6 q7 q8 ⟨m, kk, q9, q10⟩ => ?_
  have M₃ : ExcMk a.err ⟨hh, g, dr, t, os⟩ s₃ e h'.objs.size mL (some dx) := ⟨q1, q2, q3, M.new, q4, q5, fun dx' z => by cases z; exact ⟨q6, q7, q8, m, kk, q9, q10 rfl⟩⟩
  show wpAny _ _ (execs _ c.env) _ _ _
  refine wpAny_execs_cons (plainObj_wpAny_Assign_Attribute (wpAny_Name (wpAny_loadName_local hk l3 M₃.nL m3' ?_) l3d) rfl)
  refine wpAny_Name (wpAny_loadName_local hk l1 M₃.nL m1' ?_) l1d
  refine exc_set (X.keeps M₃.keeps) M₃ eL fa.err.set fa.err.only fa.err.dict fa.err.t2 fun s₄ dx q1 q2 q3 q4 q5 q6 q7 q8 q9 => ?_
  show wpAny _ _ (execs _ c.env) _ _ _
  refine wpAny_execs_nil ⟨rfl, h e s₄ q1 q2 q3 M.new ?_⟩
  obtain ⟨vs, b0, z1, z2, z3⟩ := q5
  exact ⟨_, vs, b0, z1, rfl, rfl, z2, z3⟩
end
end Mine
end
section
open PySem PySem.W PySem.Calls Builtin
open PyProof.Rows (Call_Name)
set_option maxRecDepth 100000
namespace Mine
section
variable {P : Program} {w : World} {K : Frag} {a : Adr} {d : Nat}

theorem raise_made {M : Model} {A : Around} {nm q : Str} {C N : Addr} {bs bm : List Value} {hdct : Bool} {sn : List Str} {sub : List Value} {ab : Bool} {col : Option Bool} {dd : Option Addr} {k0 k1 k2 k3 k5 : Option Value}
    {s : Shared} {env : Env} {x : Sem V} {Q : PySem.Flow → Shared → Prop} {E : V → Shared → Prop} (hbase : bm.contains (.type "BaseException") = true) (hh : A.handled = none)
    (h : wpAny M A x (fun v s₁ => ∃ e oe vs, v = .ref e ∧ s₁.heap.get? C = some (excClassObj nm q C N bs bm hdct sn sub ab col dd k0 k1 k2 k3 k5 "Exception.__new__") ∧
      s₁.heap.get? e = some oe ∧ oe.cls = .ref C ∧ oe.data = .fields vs ∧ vs[1]? = some .none ∧ E (.ref e) s₁) E s) :
    wpAny M A (raiseStmt env (some x) none) Q E s := by
  have hcB : (Value.ref C :: bm).contains (.type "BaseException") = true := by rw [List.contains_cons, hbase, Bool.or_true]
  unfold raiseStmt
  refine wpAny_bind (wpAny_mono h (fun v s₁ h₁ => ?_) fun _ _ x => x)
  obtain ⟨e, oe, vs, rfl, hC, he, hcls, hd, h1, hE⟩ := h₁
  obtain ⟨hp, g, d, tk, os⟩ := s₁
  repeat (first | (with_reducible refine wpAny_loadPart_at he ?_; rw [hcls]) | with_reducible refine wpAny_loadPart_at hC ?_ | (with_reducible refine wpAny_isSubtype_exc hC ?_; rw [hcB]) | wp_step)
  rw [hd]
  refine wpAny_pure ?_
  rw [h1]
  refine wpAny_pure ?_
  rw [if_neg (by decide)]
  exact wpAny_pure (wpAny_raiseNew_none hh hE)

theorem s_raise {σ σ₁ σ₂ : Store} {l : Loc} {x y : E} {t : List Nat} {fs : List (Nat × PV)} (hx : Good P w K a d (.e x l σ) (.v (.str t) σ₁)) (hy : Good P w K a d (.e y l σ₁) (.v (.inst 0 fs) σ₂)) : Good P w K a d (.s (.raise x y) l σ) (.exc σ₂) := by
  intro c e A B ρ s ao hi ar st Q E h
  obtain ⟨np, e1, e2, cpos, pos, h2, h3, h4, h5, h6⟩ := isS_raise hi
  obtain ⟨nm, q, N, bs, bm, hdct, sn, sub, ab, col, dd, k0, k1, k2, k3, k5, hC, hcB, hcA, hcN, hcE⟩ := ao.fa.err.cls
  have hes : isEs c.S [x, y] [e1, e2] = true := isEs_of h3 h4 (isEs_of h5 h6 rfl)
  rw [arm_exec_Raise]
  refine wpAny_bind (wpAny_standAt (raise_made (C := a.err) (nm := nm) (q := q) (N := N) (bs := bs) (bm := bm) (hdct := hdct) (sn := sn) (sub := sub) (ab := ab) (col := col) (dd := dd) (k0 := k0) (k1 := k1) (k2 := k2) (k3 := k3) (k5 := k5) hcE ar.handled ?_))
  obtain ⟨mg, mb, Nm⟩ := ao.fa.names B st.1.kin
  refine wpAny_bind (wpAny_mono (Q := fun v s₃ => ∃ e oe vs, v = .ref e ∧ s₃.heap.get? a.err = some (excClassObj nm q a.err N bs bm hdct sn sub ab col dd k0 k1 k2 k3 k5 "Exception.__new__") ∧
    s₃.heap.get? e = some oe ∧ oe.cls = .ref a.err ∧ oe.data = .fields vs ∧ vs[1]? = some .none ∧ E (.ref e) s₃) (E := E) ?_ (fun v s₃ h₃ => wpAny_bind (wpAny_standAt (wpAny_pure h₃))) fun _ _ x => x)
  refine Call_Name rfl (ld_glob ao h2 st.1.stays Nm Nm.err ?_)
  refine callWith_all (c := c) hes ao.fa.err.keep ?_
  refine (g_es_cons hx (g_es_cons hy g_es_nil)).2 c [e1, e2] cpos A B ρ s ao hes ar st _ _ fun vs s₁ ⟨B₁, ρ₁, t₁, S₁, r₁⟩ => ⟨S₁.kin.keeps S₁.stays, ?_⟩
  obtain ⟨u, v, rfl, ru, rv⟩ := reps2 r₁
  refine err_call ao.fa ar S₁ fun e s₂ q1 q2 q3 q4 ⟨oe, vs, a0, q5, q6, q7, q8, q9⟩ => ⟨e, oe, vs, rfl, q1 _ _ (S₁.stays _ _ (S₁.kin _ _ hC)), q5, q6, q7, q9, h _ _ ?_⟩
  have T₁ := st.step t₁ S₁
  -- the base behind the raise
  have hBx : ∀ b o, s₁.heap.get? b = some o → b ∉ frs c.fr → (hideAll s₁.heap (frs c.fr)).get? b = some o := fun b o z n => hideAll_get _ z n
  have nfr : ∀ b, isFr c.fr b → (hideAll s₁.heap (frs c.fr)).get? b = none := fun b hb => hideAll_none _ hb
  refine ⟨B₁, ρ₁, hideAll s₁.heap (frs c.fr), e, rfl, ?_, ?_, S₁.off, .inl ⟨fun b o z => q1 b o (of_hideAll _ z), ?_, ?_, oe, vs, a0, q5, q6, q7, q8, q9⟩, fun b o z n f => hBx b o (t₁.old b o z n f) f, fun b m f z => (t₁.ns b m (tail_sub c b f) z).keeps q1⟩
  · exact (t₁.ext (Step.of_keeps (xs := frs c.fr) (ks := []) q1 q2 q3).toExt)
  · refine ⟨S₁.kin, fun b o z => hBx b o (S₁.stays b o z) fun f => ?_, S₁.len, fun i o p z1 z2 => ?_, S₁.own, S₁.dis⟩
    · rw [(S₁.frames.mem f).1] at z; cases z
    · have n1 : p.1 ∉ frs c.fr := S₁.off _ ⟨p, List.mem_of_getElem? z2, .inl rfl⟩
      have n2 : p.2 ∉ frs c.fr := S₁.off _ ⟨p, List.mem_of_getElem? z2, .inr rfl⟩
      exact (S₁.mo i o p z1 z2).mono (fun _ _ e => e) (List.prefix_refl _) (fun ob z => hBx _ ob z n1) fun _ m ⟨ob, es, ep, z, r⟩ => ⟨ob, es, ep, hBx _ ob z n2, r⟩
  · cases z : (hideAll s₁.heap (frs c.fr)).get? e with
    | none => rfl
    | some o => have := of_hideAll _ z; rw [q4] at this; cases this
  · exact FunFrames.base nfr (FunFrames.keeps q1 S₁.frames)
end
end Mine
end
section
open PySem PySem.W PyProof.Rows PySem.Calls
namespace Mine
section
variable {P : Program} {w : World} {K : Frag} {a : Adr} {d : Nat}

theorem s_try {σ σ₁ : Store} {l l₁ : Loc} {b : List S} {t : List Nat} {f : Flow} (hb : Good P w K a d (.ss b l σ) (.fl f l₁ σ₁)) : Good P w K a d (.s (.tryr b t) l σ) (.fl f l₁ σ₁) := by
  intro c e A B ρ s ao hi ar st Q E h
  obtain ⟨b', np, k2, p2, k3, p3, p4, p5, pos, i1, i2⟩ := isS_try hi
  refine wpAny_Try_except (hb c b' A B ρ s ao i1 ar st _ _ fun g s₁ ok => ?_)
  cases g
  case next => exact wpAny_execs_nil (h _ _ ok)
  all_goals exact h _ _ ok

theorem s_tryx {σ σ₁ : Store} {l : Loc} {b : List S} {t : List Nat} (hb : Good P w K a d (.ss b l σ) (.exc σ₁)) : Good P w K a d (.s (.tryr b t) l σ) (.fl (.ret (.tup [.str t])) l σ₁) := by
  intro c e A B ρ s ao hi ar st Q E h
  obtain ⟨b', np, k2, p2, k3, p3, p4, p5, pos, i1, i2⟩ := isS_try hi
  obtain ⟨nm, q, N, bs, bm, hdct, sn, sub, ab, col, dd, k0, k1, k2', k3', k5, hC, hcB, hcA, hcN, hcE⟩ := ao.fa.err.cls
  refine wpAny_Try_except (hb c b' A B ρ s ao i1 ar st _ _ fun e s₁ x => ?_)
  refine noted ar.frames x fun s₂ y => ?_
  obtain ⟨Bx, ea, rfl, ⟨a0, he⟩, fin⟩ := Exc.turn (Y := fun Bx ea h => ∃ a0, Heap.FlyingW Bx c.fr ea (.ref a.err) a0 h) y
  refine wpAny_landsW he fun h₃ fl up => ?_
  have z := fin h₃ up ⟨a0, fl⟩
  obtain ⟨Bx₂, ea₂, e₂, ⟨a1, fl₂⟩, fin₂⟩ := Exc.turn (Y := fun Bx ea h => ∃ a0, Heap.FlyingW Bx c.fr ea (.ref a.err) a0 h) z
  cases e₂
  have z' := z
  obtain ⟨B', ρ', Bx', ea', e', y2, y3, y4, y5, y6, y7⟩ := z'
  cases e'
  obtain ⟨a2, fl'⟩ := y5
  have X₃ : K.In h₃ := (y3.kin.keeps y3.stays).keeps fl'.1
  obtain ⟨ob, hob, hobc⟩ := fl'.there
  obtain ⟨mg, mb, Nm⟩ := ao.fa.names B' y3.kin
  refine wpAny_handleBy_cons (codeAny_handlers_test (ld_glob ao i2 (B := B') (fun b o q => fl'.1 b o (y3.stays b o q)) Nm Nm.err ?_)) (by intro q; cases q)
  refine wpAny_excMatches_sub_self (h := h₃) (g := s₂.gens) (d := s₂.drawn) (t := s₂.toks) (os := s₂.os) (X₃ _ _ hC) hob hobc hcE (codeAny_handlers_suite ?_)
  refine lands_againW fl₂ fun h₆ fl₆ up₆ => ?_
  have z₆ := fin₂ h₆ up₆ ⟨a1, fl₆⟩
  obtain ⟨B₆, ρ₆, Bx₆, ea₆, e₆, u2, u3, u4, ⟨a6, u5⟩, u6, u7⟩ := z₆
  have S₆ : St a.cls K c.fr B₆ ρ₆ σ₁ h₆ := ⟨u3.keeps u5.1, u4, FunFrames.base (fun b hb => by
    cases w : B₆.get? b with
    | none => rfl
    | some o => have := u3.stays _ _ w; rw [(u5.2.2.1.mem hb).1] at this; cases this) u5.2.2.1⟩
  have t₆ : Step (frs c.fr) (frs c.fr.tail) B ρ s B₆ ρ₆ { s₂ with heap := h₆ } := ⟨u2, fun b o q n f => u5.1 b o (u6 b o q n f), u7⟩
  refine wpAny_execs_cons (wpAny_Return_some (Tuple_ (args_cons (Constant_str (args_nil ?_)) rfl)))
  refine wpAny_newTuple ?_ (by rw [sizeLine_eq]; show 1 ≤ 16777216; lia)
  obtain ⟨t₇, S₇⟩ := S₆.known (s := { s₂ with heap := h₆ }) (s' := { s₂ with heap := h₆.push { cls := .type "tuple", data := .seq [Value.str (Mine.st t) s₂.toks].toArray }, toks := s₂.toks + 1 }) (push_keeps _ _) [h₆.objs.size] (fun b m => by rw [List.mem_singleton.mp m]; exact get?_size _) rfl rfl (frs c.fr) (frs c.fr.tail)
  refine h _ _ ⟨_, _, t₆.trans t₇, S₇, (fun q => by cases q), ?_⟩
  refine .tup (growH_in (Heap.get?_push_size _ rfl) (.inr (.head _))) rfl rfl rfl fun i p v a1 a2 => ?_
  cases i with
  | zero => cases a1; cases a2; exact .str ..
  | succ i => simp at a1
end
end Mine
end
section
open PySem PySem.W PyProof.Rows PySem.Calls
set_option maxHeartbeats 1000000
namespace Mine
section
variable {P : Program} {w : World} {K : Frag} {a : Adr}

theorem g_trivE {d : Nat} {x : E} {l : Loc} {σ : Store} {r : Out} (h1 : ∀ p σ', r = .v p σ' → Good P w K a d (.e x l σ) r) (h2 : ∀ σ', r = .exc σ' → Good P w K a d (.e x l σ) r) : Good P w K a d (.e x l σ) r := by
  cases r with
  | v p σ' => exact h1 p σ' rfl
  | exc σ' => exact h2 σ' rfl
  | vs => exact trivial
  | fl => exact trivial
theorem g_trivS {d : Nat} {x : S} {l : Loc} {σ : Store} {r : Out} (h1 : ∀ f l' σ', r = .fl f l' σ' → Good P w K a d (.s x l σ) r) (h2 : ∀ σ', r = .exc σ' → Good P w K a d (.s x l σ) r) : Good P w K a d (.s x l σ) r := by
  cases r with
  | fl f l' σ' => exact h1 f l' σ' rfl
  | exc σ' => exact h2 σ' rfl
  | vs => exact trivial
  | v => exact trivial
theorem g_trivSs {d : Nat} {x : List S} {l : Loc} {σ : Store} {r : Out} (h1 : ∀ f l' σ', r = .fl f l' σ' → Good P w K a d (.ss x l σ) r) (h2 : ∀ σ', r = .exc σ' → Good P w K a d (.ss x l σ) r) : Good P w K a d (.ss x l σ) r := by
  cases r with
  | fl f l' σ' => exact h1 f l' σ' rfl
  | exc σ' => exact h2 σ' rfl
  | vs => exact trivial
  | v => exact trivial

theorem g_boolsT {d : Nat} {k : Bool} {x y : E} {r : List E} {l : Loc} {σ σ' : Store} {o : Out} (h : Good P w K a d (.e x l σ) (.v (.bool k) σ')) (h2 : Good P w K a d (.bools k (y :: r) l σ') o) : Good P w K a d (.bools k (x :: y :: r) l σ) o := by
  cases o with
  | v p σ' =>
    obtain ⟨b', rfl, _⟩ := id h2
    exact g_bools2 h (fun _ => h2) fun n => absurd rfl n
  | exc σ' => exact h2.elim
  | vs => exact trivial
  | fl => exact trivial
theorem g_boolsF {d : Nat} {k : Bool} {x y : E} {r : List E} {l : Loc} {σ σ' : Store} (h : Good P w K a d (.e x l σ) (.v (.bool (!k)) σ')) : Good P w K a d (.bools k (x :: y :: r) l σ) (.v (.bool (!k)) σ') :=
  g_bools2 h (fun e => by cases k <;> cases e) fun _ => ⟨rfl, rfl⟩
theorem g_whlT {d : Nat} {t : E} {b : List S} {l l' : Loc} {σ σ' σ'' : Store} {o : Out} (h : Good P w K a d (.e t l σ) (.v (.bool true) σ')) (h2 : Good P w K a d (.ss b l σ') (.fl .next l' σ'')) (h3 : Good P w K a d (.whl t b l' σ'') o) : Good P w K a d (.whl t b l σ) o := by
  cases o with
  | fl f l' σ' => exact w_next h h2 h3
  | exc σ' => exact w_nextx h h2 h3
  | v => exact trivial
  | vs => exact trivial
theorem g_frT {d : Nat} {i : Nat} {src src' : Src} {b : List S} {v : PV} {l l' : Loc} {σ σ' : Store} {o : Out} (e : srcNext σ src = some (some (v, src'))) (h : Good P w K a d (.ss b (l.set i (some v)) σ) (.fl .next l' σ')) (h2 : Good P w K a d (.fr i src' b l' σ') o) : Good P w K a d (.fr i src b l σ) o := by
  cases o with
  | fl f l' σ' => exact f_next e h h2
  | exc σ' => exact h2.elim
  | v => exact trivial
  | vs => exact trivial
theorem sound (d : Nat) (c : Cfg) (r : Out) (h : ev d c r) : Good P w K a d c r := h.on (Good P w K a) {
  ev_e_bool := g_bool
  ev_e_int := g_int
  ev_e_str := g_str
  is_loc := fun h => g_loc h
  is_glob := fun h => g_glob h
  is_bop := fun h1 h2 h3 => g_bop h1 h2 h3
  is_cmp := fun h1 h2 h3 => g_cmp h1 h2 h3
  is_cmp2f := fun h1 h2 h3 => g_cmp2 (u := .none) h1 h2 h3 (fun q => by cases q) fun _ => ⟨rfl, rfl⟩
  is_cmp2t := fun h1 h2 h3 h4 h5 => g_cmp2 h1 h2 h3 (fun _ => ⟨h4, h5⟩) fun q => by cases q
  ev_e_and := fun h => g_trivE (fun _ _ q => by subst q; exact g_and h) fun _ q => by subst q; exact h.elim
  ev_e_or := fun h => g_trivE (fun _ _ q => by subst q; exact g_or h) fun _ q => by subst q; exact h.elim
  is_not := fun h1 => g_not h1
  is_ite := fun h1 h2 => g_ite h1 h2
  is_call := fun h h2 => g_trivE (fun _ _ q => by subst q; exact g_call h h2) fun _ q => by subst q; exact x_call2 h h2
  is_mk := fun h h2 => g_mk h h2
  is_mkx := fun h => x_mk h
  is_bi := fun h h2 => g_bi h h2
  is_meth := fun h hm h2 h3 => g_trivE (fun _ _ q => by subst q; exact g_meth h hm h2 h3) fun _ q => by subst q; exact x_meth2 h hm h2 h3
  is_app := fun h hm h2 h3 => g_app h hm h2 h3
  is_rev := fun h hm h2 h3 => g_rev h hm h2 h3
  is_methx := fun h => x_meth1 h
  is_attr := fun h1 h3 => g_attr h1 h3
  is_spaced := fun h hz => g_spaced h hz
  is_sub := fun h1 h2 h3 => g_sub h1 h2 h3
  is_sl2 := fun h1 h2 h3 hz => g_sl2 h1 h2 h3 hz
  is_slFrom := fun h1 h2 hz => g_slFrom h1 h2 hz
  is_slTo := fun h1 h2 hz => g_slTo h1 h2 hz
  is_slToL := fun h1 h2 e hz h0 => g_slTo' h1 h2 e hz h0
  is_tup := fun h hz => g_tup h hz
  is_lst := fun h hz => g_lst h hz
  is_intcomp := fun h1 e hz h3 => g_intcomp h1 e hz h3
  ev_es_nil := g_es_nil
  es_c := fun h1 h2 => g_es_cons h1 h2
  es_x1 := fun h1 => x_es1 h1
  es_x2 := fun h1 h2 => x_es2 h1 h2
  bools_one := fun h1 => g_bools1 h1
  bools_t := fun h h2 => g_boolsT h h2
  bools_f := fun h => g_boolsF h
  do_asg := fun h => s_asg h
  do_asgx := fun h => s_asgx h
  do_asg2 := fun h => s_asg2 h
  do_setattr := fun h h2 h3 => s_setattr h h2 h3
  do_setitem := fun h h2 h3 h4 => s_setitem h h2 h3 h4
  do_expr := fun h => s_expr h
  do_exprx := fun h => s_exprx h
  do_ife := fun h h2 => g_trivS (fun _ _ _ q => by subst q; exact s_ife h h2) fun _ q => by subst q; exact s_ifex h h2
  do_whl := fun h => g_trivS (fun _ _ _ q => by subst q; exact s_whl h) fun _ q => by subst q; exact s_whlx h
  do_forr := fun h h2 h3 => g_trivS (fun _ _ _ q => by subst q; exact s_forr h h2 h3) fun _ q => by subst q; exact h3.elim
  do_ret := fun h => s_ret h
  do_retx := fun h => s_retx h
  do_raise := fun h h2 => s_raise h h2
  do_tryx := fun h => s_tryx h
  do_tryr := fun h => s_try h
  ev_ss_nil := ss_nil
  ss_next := fun h h2 => g_trivSs (fun _ _ _ q => by subst q; exact ss_cons h h2) fun _ q => by subst q; exact ss_consx h h2
  ss_retd := fun h => ss_ret h
  ss_excd := fun h => ss_exc h
  whl_end := fun h => w_end h
  whl_turn := fun h h2 h3 => g_whlT h h2 h3
  whl_exc := fun h h2 => w_exc h h2
  fr_end := fun e => f_end e
  fr_turn := fun e h h2 => g_frT e h h2
  fr_retd := fun e h => f_ret e h
  do_call := fun h hn hb => g_call' h hn rfl hb
  do_calln := fun h hn hb => g_call' h hn rfl hb
  do_callx := fun h hn hb => x_call' h hn hb
}
end
end Mine
end
section
open PySem PySem.W PyProof.Rows PySem.Calls
namespace Mine
/-! the facts wanted of the head, as one Bool over the fragment -/
noncomputable def fnA (i : Nat) : Nat := ([96, 103, 110, 117, 138, 166, 208, 215, 222, 229, 236, 264, 271, 285, 306, 320, 327, 334, 341, 355, 362, 376, 404, 432, 458, 503, 529, 541, 548, 555, 562, 569, 576, 583, 590, 597, 604, 614, 621, 628, 635, 642, 649, 656, 661] : List Nat).getD i 0
noncomputable def clsA (i : Nat) : Nat := ([45, 183, 274, 379, 435, 461, 480, 506, 532] : List Nat).getD i 0
noncomputable def adr : Adr := ⟨fnA, clsA, 87⟩
noncomputable def addrs : List Nat := [builtinsNs, cStatics, mainGlobals, 45, 44, 35, 34, 74, 73, 64, 63, 57, 87, 86, 183, 182, 159, 158, 274, 273, 201, 200, 379, 378, 299, 298, 407, 406, 435, 434, 425, 424, 461, 460, 451, 450, 480, 479, 477, 476, 506, 505, 496, 495, 532, 531, 522, 521, 605, 606, 607] ++
  ((List.range 45).map fnA ++ (List.range 45).map fun i => fnA i - 1)
noncomputable def got (t : BT) (n a : Nat) : Option Obj := match Nat.blt a n with
  | true => (t.get a).bind alive
  | false => none
noncomputable def kT (s : SharedT) : Frag := addrs.filterMap fun a => (got s.tree s.n a).map fun o => (a, o)
theorem lookup_fm {g : Nat → Option Obj} : ∀ {l : List Nat} {a : Addr} {o : Obj}, (l.filterMap fun a => (g a).map fun o => (a, o)).lookup a = some o → g a = some o
  | [], _, _, e => by cases e
  | b :: l, a, o, e => by
    rw [List.filterMap_cons] at e
    cases hb : g b with
    | none => rw [hb] at e; exact lookup_fm e
    | some x =>
      rw [hb] at e
      dsimp only [Option.map_some] at e
      rw [List.lookup_cons] at e
      by_cases q : a = b
      · subst q; rw [beq_self_eq_true] at e; cases e; exact hb
      · rw [beq_eq_false_iff_ne.mpr q] at e; exact lookup_fm e
theorem kT_in (s : SharedT) : (kT s).In s.abs.heap := fun a o e => by
  have g := lookup_fm e
  unfold got at g
  cases h : Nat.blt a s.n with
  | false => rw [h] at g; cases g
  | true =>
    rw [h] at g
    obtain ⟨o', g1, g2⟩ := Option.bind_eq_some_iff.mp g
    exact (abs_get (Nat.blt_eq.mp h) g1).trans g2

noncomputable def isNsK (K : Frag) (a : Addr) : Bool := match K.lookup a with
  | some o => (match o.data with | .dict es _ => es.all (fun e => match e.key with | .str _ _ => true | _ => false) | _ => false)
  | none => false
noncomputable def nsK (K : Frag) (a : Addr) (x : Str) : Option V := match K.lookup a with
  | some o => (match o.data with | .dict es _ => nsFind es x | _ => none)
  | none => none
theorem ns_of {K : Frag} {h : Heap} (X : K.In h) {a : Addr} (e : isNsK K a = true) : h.Ns a (nsK K a) := by
  unfold isNsK at e
  cases ho : K.lookup a with
  | none => rw [ho] at e; cases e
  | some o =>
    have q : h.isNs a = true := by unfold Heap.isNs; rw [X _ _ ho]; rw [ho] at e; exact e
    have r := Heap.Ns.of_isNs q
    have : h.nsMap a = nsK K a := by funext x; unfold Heap.nsMap nsK; rw [X _ _ ho, ho]; rfl
    rw [← this]; exact r
noncomputable def strB (p : PV) (v : V) : Bool := match p with
  | .str l => (match v with | .str x _ => decide (x = st l) | _ => false)
  | .int i => (match v with | .int j _ => decide (i = j) | _ => false)
  | _ => false
noncomputable def allB : List PV → List V → Bool
  | [], [] => true
  | p :: r, v :: q => strB p v && allB r q
  | _, _ => false
noncomputable def repB (K : Frag) (p : PV) (v : V) : Bool := match p with
  | .tup l => (match v with
    | .ref a => (match K.lookup a with
      | some o => decide (o.cls = .type "tuple") && (match o.data with | .seq xs _ => allB l xs.toList | _ => false)
      | none => false)
    | _ => false)
  | p => strB p v
set_option tactic.hygienic true in
theorem rep_str {cl : Nat → Addr} {B : Heap} {p : PV} {v : V} (e : strB p v = true) : RepV cl B [] p v := by
  unfold strB at e
  split at e
  · split at e
    · rename_i x t; rw [of_decide_eq_true e]; exact .str _ _
    · cases e
  · split at e
    · rename_i x t; rw [of_decide_eq_true e]; exact .int _ _
    · cases e
  · cases e
theorem all_str {cl : Nat → Addr} {B : Heap} : ∀ {l : List PV} {vs : List V}, allB l vs = true → l.length = vs.length ∧ ∀ (i : Nat) (p : PV) (v : V), l[i]? = some p → vs[i]? = some v → RepV cl B [] p v
  | [], [], _ => ⟨rfl, fun i p v h => by simp at h⟩
  | [], _ :: _, e => by cases e
  | _ :: _, [], e => by cases e
  | p :: r, v :: q, e => by
    obtain ⟨e1, e2⟩ := Bool.and_eq_true_iff.mp (show (strB p v && allB r q) = true from e)
    obtain ⟨h1, h2⟩ := all_str (cl := cl) (B := B) e2
    refine ⟨by rw [List.length_cons, List.length_cons, h1], fun i p' v' a b => ?_⟩
    cases i with
    | zero => cases a; cases b; exact rep_str e1
    | succ i => exact h2 i p' v' a b
set_option tactic.hygienic true in
theorem rep_of {cl : Nat → Addr} {K : Frag} {B : Heap} (X : K.In B) {p : PV} {v : V} (e : repB K p v = true) : RepV cl B [] p v := by
  unfold repB at e
  split at e
  · split at e
    · split at e
      · rename_i o ho
        obtain ⟨e1, e2⟩ := Bool.and_eq_true_iff.mp e
        split at e2
        · rename_i xs n hd
          obtain ⟨h1, h2⟩ := all_str (cl := cl) (B := B) e2
          exact .tup (X _ _ ho) (of_decide_eq_true e1) hd (by rw [h1, Array.length_toList]) fun i p v a b => h2 i p v a (by rw [Array.getElem?_toList]; exact b)
        · cases e2
      · cases e
    · cases e
  · exact rep_str e

noncomputable def allBi : List Bi := [.ord, .len, .str, .range, .toInt, .sum]
noncomputable def namesB (K : Frag) (a : Adr) : Bool :=
  isNsK K mainGlobals && (isNsK K builtinsNs && ((List.range 45).all (fun f => match fnName f with | some l => decide (nsK K mainGlobals (st l) = some (.ref (a.fn f))) | none => true) &&
  ((List.range 9).all (fun f => match clsName f with | some l => decide (nsK K mainGlobals (st l) = some (.ref (a.cls f))) | none => true) &&
  ((List.range 6).all (fun g => match globName g with
    | some l => (match globTab g with | some p => (match nsK K mainGlobals (st l) with | some v => repB K p v | none => false) | none => true)
    | none => true) &&
  (allBi.all (fun x => decide (nsK K mainGlobals (st (biName x)) = none) && decide (nsK K builtinsNs (st (biName x)) = some (biVal x))) &&
  (decide (nsK K mainGlobals "ReadError" = some (.ref a.err)) && (decide (nsK K mainGlobals "Exception" = none) && decide (nsK K builtinsNs "Exception" = some (.type "Exception")))))))))
theorem lt_of_none {α : Type} {t : Nat → Option α} {n f : Nat} {l : α} (h : t f = some l) (k : ∀ m, t (m + n) = none) : f < n := by
  rcases Nat.lt_or_ge f n with q | q
  · exact q
  · have e := k (f - n)
    rw [Nat.sub_add_cancel q, h] at e
    cases e
theorem fnName_lt {f : Nat} {l : List Nat} (h : fnName f = some l) : f < 45 := lt_of_none h fun _ => rfl
theorem clsName_lt {f : Nat} {l : List Nat} (h : clsName f = some l) : f < 9 := lt_of_none h fun _ => rfl
theorem globName_lt {f : Nat} {l : List Nat} (h : globName f = some l) : f < 6 := lt_of_none h fun _ => rfl
theorem fnTab_lt {f : Nat} {l : Fn} (h : fnTab f = some l) : f < 45 := lt_of_none h fun _ => rfl
theorem initTab_lt {f : Nat} {l : Nat × List (Nat × Ini)} (h : initTab f = some l) : f < 9 := lt_of_none h fun _ => rfl
theorem methTab_m (m : Nat) : ∀ c, methTab c (m + 34) = none
  | 0 => rfl
  | 1 => rfl
  | 2 => rfl
  | 3 => rfl
  | 4 => rfl
  | 5 => rfl
  | 6 => rfl
  | 7 => rfl
  | 8 => rfl
  | _ + 9 => rfl
theorem methTab_lt {c m f : Nat} (h : methTab c m = some f) : c < 9 ∧ m < 34 :=
  ⟨lt_of_none (t := fun c => methTab c m) h fun _ => rfl, lt_of_none (t := methTab c) h fun k => methTab_m k c⟩
theorem all_range {n i : Nat} {p : Nat → Bool} (h : (List.range n).all p = true) (hi : i < n) : p i = true := List.all_eq_true.mp h i (List.mem_range.mpr hi)
theorem names_of {K : Frag} {a : Adr} (e : namesB K a = true) (B : Heap) (X : K.In B) : ∃ mg mb, Names a B mg mb := by
  unfold namesB at e
  obtain ⟨e1, e⟩ := Bool.and_eq_true_iff.mp e
  obtain ⟨e2, e⟩ := Bool.and_eq_true_iff.mp e
  obtain ⟨e3, e⟩ := Bool.and_eq_true_iff.mp e
  obtain ⟨e4, e⟩ := Bool.and_eq_true_iff.mp e
  obtain ⟨e5, e⟩ := Bool.and_eq_true_iff.mp e
  obtain ⟨e6, e⟩ := Bool.and_eq_true_iff.mp e
  obtain ⟨e7, e⟩ := Bool.and_eq_true_iff.mp e
  obtain ⟨e8, e9⟩ := Bool.and_eq_true_iff.mp e
  refine ⟨_, _, ns_of X e1, ns_of X e2, fun f l h => ?_, fun f l h => ?_, fun g l p h1 h2 => ?_, fun x => ?_, of_decide_eq_true e7, of_decide_eq_true e8, of_decide_eq_true e9⟩
  · have q := all_range e3 (fnName_lt h); rw [h] at q; exact of_decide_eq_true q
  · have q := all_range e4 (clsName_lt h); rw [h] at q; exact of_decide_eq_true q
  · have q := all_range e5 (globName_lt h1)
    rw [h1, h2] at q
    dsimp only at q
    cases hv : nsK K mainGlobals (st l) with
    | none => rw [hv] at q; cases q
    | some v => rw [hv] at q; exact ⟨v, rfl, rep_of X q⟩
  · have q := List.all_eq_true.mp e6 x (by unfold allBi; cases x <;> simp)
    obtain ⟨q1, q2⟩ := Bool.and_eq_true_iff.mp q
    exact ⟨of_decide_eq_true q1, of_decide_eq_true q2⟩

noncomputable def vFunc (d : Data) : Option { q : FuncData // d = .func q } := match d with | .func fd => some ⟨fd, rfl⟩ | _ => none
noncomputable def vStmts (b : FuncBody) : Option { q : List XS // b = .stmts q } := match b with | .stmts l => some ⟨l, rfl⟩ | _ => none
noncomputable def vParams (p : Arguments) : Option { q : List Arg × List XE // p = ⟨[], q.1, none, [], [], none, q.2⟩ } := match p with | ⟨[], as, none, [], [], none, df⟩ => some ⟨(as, df), rfl⟩ | _ => none
noncomputable def isFunK (k : ScopeKind) : Bool := match k with | .function => true | _ => false
/-- a plain def: its parameters, body and scope -/
noncomputable def defB (K : Frag) (f : Addr) (nod : Bool) (good : List Arg → List XS → Scope → Bool) : Bool := (K.lookup f).any fun o => (vFunc o.data).any fun fd => (vStmts fd.1.body).any fun b => (vParams fd.1.params).any fun p =>
  decide (fd.1.globals = mainGlobals) && (fd.1.closure.isEmpty && (decide (fd.1.kwdefaults = .none) && (decide (fd.1.builtins = builtinsNs) && (codeIn K fd.1.code fd.1.qualname &&
  (fd.1.scope.names.all (fun x => match x.2 with | .cell => false | _ => true) && (!fd.1.scope.isCoroutine && (!fd.1.scope.isGenerator && (isFunK fd.1.scope.kind &&
  ((!nod || (decide (fd.1.defaults = .none) && p.1.2.isEmpty)) && good p.1.1 b.1 fd.1.scope)))))))))
inductive DefAt (K : Frag) (f : Addr) (nod : Bool) (good : List Arg → List XS → Scope → Bool) : Prop
  | mk (name qual : Str) (as : List Arg) (df : List XE) (body : List XS) (sc : Scope) (dv doc pm cdv ct oc : V) (an od : Option Addr) (osl : Array (Option V))
    (h1 : K.lookup f = some ⟨oc, od, .func (fnOf name qual ⟨[], as, none, [], [], none, df⟩ body sc dv .none doc pm an cdv ct), osl⟩) (h2 : codeIn K cdv qual = true)
    (h3 : ∀ x ∈ sc.names, x.2 ≠ .cell) (h4 : sc.isCoroutine = false) (h5 : sc.isGenerator = false) (h6 : sc.kind = .function) (h7 : nod = true → dv = .none ∧ df = []) (h8 : good as body sc = true)
theorem def_of {K : Frag} {f : Addr} {nod : Bool} {good : List Arg → List XS → Scope → Bool} (e : defB K f nod good = true) : DefAt K f nod good := by
  obtain ⟨o, ho, g0⟩ := opt_inv e
  clear e
  obtain ⟨oc, od, dt, osl⟩ := o
  obtain ⟨⟨fd, e1⟩, g1⟩ := any_inv g0
  clear g0
  dsimp only at e1 g1
  subst e1
  obtain ⟨name, qual, ps, fb, sc, gl, clo, dv, kv, doc, pm, an, cdv, ct, bi⟩ := fd
  obtain ⟨⟨body, e1⟩, g2⟩ := any_inv g1
  clear g1
  dsimp only at e1 g2
  subst e1
  obtain ⟨⟨⟨as, df⟩, e1⟩, g3⟩ := any_inv g2
  clear g2
  dsimp only at e1 g3
  subst e1
  obtain ⟨a1, g4⟩ := and_inv g3
  clear g3
  obtain ⟨a2, g5⟩ := and_inv g4
  clear g4
  obtain ⟨a3, g6⟩ := and_inv g5
  clear g5
  obtain ⟨a4, g7⟩ := and_inv g6
  clear g6
  obtain ⟨a5, g8⟩ := and_inv g7
  clear g7
  obtain ⟨a6, g9⟩ := and_inv g8
  clear g8
  obtain ⟨a7, g10⟩ := and_inv g9
  clear g9
  obtain ⟨a8, g11⟩ := and_inv g10
  clear g10
  obtain ⟨a9, g12⟩ := and_inv g11
  clear g11
  obtain ⟨a10, a11⟩ := and_inv g12
  clear g12
  obtain rfl := dec_inv a1
  obtain rfl := nil_inv a2
  obtain rfl := dec_inv a3
  obtain rfl := dec_inv a4
  refine .mk name qual as df body sc dv doc pm cdv ct oc an od osl ho a5 (fun x hx q => ?_) (not_inv a7) (not_inv a8) ?_ (fun hnd => ?_) a11
  · have := List.all_eq_true.mp a6 x hx
    rw [q] at this; cases this
  · revert a9; cases sc.kind <;> intro h <;> first | rfl | exact Bool.noConfusion h
  · rw [hnd] at a10
    obtain ⟨b1, b2⟩ := and_inv (show (_ && _) = true from a10)
    exact ⟨dec_inv b1, nil_inv b2⟩
noncomputable def fnB (K : Frag) (a : Adr) (f : Nat) (fn : Fn) : Bool := defB K (a.fn f) true fun as body sc =>
  decide (as.map (·.arg) = ((fnLocs f).map st).take fn.np) && (decide (fn.np ≤ (fnLocs f).length) && (decide ((fnLocs f).length = fn.nl) && (decide (((fnLocs f).map st).Nodup) &&
    (((fnLocs f).map st).all (fun x => decide (sc.names.lookup x = some .local)) && isSs ⟨sc, (fnLocs f).map st⟩ fn.body body))))
theorem fn_of {K : Frag} {a : Adr} {f : Nat} {fn : Fn} (e : fnB K a f fn = true) : FnOk K a f fn := by
  obtain ⟨name, qual, as, df, body, sc, dv, doc, pm, cdv, ct, oc, an, od, osl, h1, h2, h3, h4, h5, h6, h7, h8⟩ := def_of e
  clear e
  obtain ⟨rfl, rfl⟩ := h7 rfl
  obtain ⟨g1, h9⟩ := and_inv h8
  clear h8
  obtain ⟨g2, h10⟩ := and_inv h9
  clear h9
  obtain ⟨g3, h11⟩ := and_inv h10
  clear h10
  obtain ⟨g4, h12⟩ := and_inv h11
  clear h11
  obtain ⟨g5, g6⟩ := and_inv h12
  exact ⟨.mk name qual _ body sc doc pm cdv ct oc an od osl h1 h2 rfl (dec_inv g1) (dec_inv g2) (dec_inv g3) (dec_inv g4) (fun x hx => dec_inv (List.all_eq_true.mp g5 x hx)) h3 h4 h5 h6 g6⟩
noncomputable def vRef2 (r : Option (Option V)) : Option { q : Addr // r = some (some (.ref q)) } := match r with | some (some (.ref q)) => some ⟨q, rfl⟩ | _ => none
noncomputable def iniB (K : Frag) (a : Adr) (c n : Nat) (l : List (Nat × Ini)) : Bool := makesIn K (a.cls c) && ((vRef2 (findIn K (.ref (a.cls c)) "__init__")).any fun fI => decide (typeIn K (.ref fI.1) = some (.type "function")) && defB K fI.1 true fun as body sc =>
  decide (as.length = n) && (decide ((as.map (·.arg)).Nodup) && ((as.map (·.arg)).all (fun x => decide (sc.names.lookup x = some .local)) && isIni ⟨sc, as.map (·.arg)⟩ l body)))
theorem ini_of {K : Frag} {a : Adr} {c n : Nat} {l : List (Nat × Ini)} (e : iniB K a c n l = true) : IniOk K a c n l := by
  obtain ⟨e1, e2⟩ := and_inv e
  clear e
  refine ⟨e1, ?_⟩
  obtain ⟨⟨fI, hf⟩, e3⟩ := any_inv e2
  clear e2
  obtain ⟨e4, e5⟩ := and_inv e3
  clear e3
  obtain ⟨name, qual, as, df, body, sc, dv, doc, pm, cdv, ct, oc, an, od, osl, h1, h2, h3, h4, h5, h6, h7, h8⟩ := def_of e5
  clear e5
  obtain ⟨rfl, rfl⟩ := h7 rfl
  obtain ⟨g1, h9⟩ := and_inv h8
  clear h8
  obtain ⟨g2, h10⟩ := and_inv h9
  clear h9
  obtain ⟨g3, g4⟩ := and_inv h10
  exact .mk fI name qual as body sc doc pm cdv ct oc an od osl hf (dec_inv e4) h1 h2 (dec_inv g1) (dec_inv g2) (fun x hx => dec_inv (List.all_eq_true.mp g3 x hx)) h3 h4 h5 h6 g4
noncomputable def vCls (d : Data) : Option { q : ClassData // d = .cls q } := match d with | .cls cd => some ⟨cd, rfl⟩ | _ => none
noncomputable def vMro (l : List V) : Option { q : Addr × List V // l = .ref q.1 :: q.2 } := match l with | .ref c :: r => some ⟨(c, r), rfl⟩ | _ => none
noncomputable def vSlots (l : List (Option V)) : Option { q : Option V × Option V × Option V × Option V × String × Option V // l = [q.1, q.2.1, q.2.2.1, q.2.2.2.1, some (.builtin q.2.2.2.2.1), q.2.2.2.2.2] } := match l with | [k0, k1, k2, k3, some (.builtin i), k5] => some ⟨(k0, k1, k2, k3, i, k5), rfl⟩ | _ => none
noncomputable def eclsB (K : Frag) (a : Adr) : Bool := (K.lookup a.err).any fun o => decide (o.cls = .type "type") && ((vCls o.data).any fun cd => (vMro cd.1.mro).any fun m => (vSlots o.slots.toList).any fun t =>
  decide (m.1.1 = a.err) && (!cd.1.hasDel && ((Value.ref a.err :: m.1.2).contains (.type "Exception") && (!(Value.ref a.err :: m.1.2).contains (.type "AttributeError") && (!(Value.ref a.err :: m.1.2).contains (.type "NameError") &&
    (m.1.2.contains (.type "BaseException") && decide (t.1.2.2.2.2.1 = "Exception.__new__")))))))
theorem ecls_of {K : Frag} {a : Adr} (e : eclsB K a = true) : ErrCls K a := by
  obtain ⟨o, ho, g0⟩ := opt_inv e
  clear e
  obtain ⟨oc, od, dt, osl⟩ := o
  obtain ⟨a1, g1⟩ := and_inv g0
  clear g0
  obtain ⟨⟨cd, e1⟩, g2⟩ := any_inv g1
  clear g1
  dsimp only at e1 g2
  subst e1
  obtain ⟨nm, bs, mro, N, q, hd, sn, sub, ab, col, hdel⟩ := cd
  obtain ⟨⟨⟨c, bm⟩, e1⟩, g3⟩ := any_inv g2
  clear g2
  dsimp only at e1 g3
  subst e1
  obtain ⟨⟨⟨k0, k1, k2, k3, i, k5⟩, e1⟩, g4⟩ := any_inv g3
  clear g3
  dsimp only at e1 g4
  obtain ⟨b1, g5⟩ := and_inv g4
  clear g4
  obtain ⟨b2, g6⟩ := and_inv g5
  clear g5
  obtain ⟨b3, g7⟩ := and_inv g6
  clear g6
  obtain ⟨b4, g8⟩ := and_inv g7
  clear g7
  obtain ⟨b5, g9⟩ := and_inv g8
  clear g8
  obtain ⟨b6, b7⟩ := and_inv g9
  clear g9
  obtain rfl := dec_inv a1
  obtain rfl := dec_inv b1
  obtain rfl := not_inv b2
  obtain rfl := dec_inv b7
  obtain rfl : osl = #[k0, k1, k2, k3, some (.builtin "Exception.__new__"), k5] := Array.toList_inj.mp e1
  exact .mk nm q N bs bm hd sn sub ab col od k0 k1 k2 k3 k5 ho b3 (not_inv b4) (not_inv b5) b6
noncomputable def vRefV (v : V) : Option { q : Addr // v = .ref q } := match v with | .ref q => some ⟨q, rfl⟩ | _ => none
noncomputable def vSeq1 (d : Data) : Option { q : V × Nat // d = .seq #[q.1] q.2 } := match d with | .seq ⟨[x]⟩ n => some ⟨(x, n), rfl⟩ | _ => none
noncomputable def einiB (K : Frag) (a : Adr) : Bool := (vRef2 (findIn K (.ref a.err) "__init__")).any fun fI => decide (typeIn K (.ref fI.1) = some (.type "function")) && (defB K fI.1 false (fun as body sc => decide ((as.map (·.arg)).Nodup) &&
  ((as.map (·.arg)).all (fun x => decide (sc.names.lookup x = some .local)) && ((v3 as).isSome && isErrIni ⟨sc, as.map (·.arg)⟩ body))) &&
  ((K.lookup fI.1).any fun o => (vFunc o.data).any fun fd => (vRefV fd.1.defaults).any fun T => (K.lookup T.1).any fun oT => (vSeq1 oT.data).isSome))
theorem eini_of {K : Frag} {a : Adr} (e : einiB K a = true) : ErrIni K a := by
  obtain ⟨⟨fI, hf⟩, g0⟩ := any_inv e
  clear e
  obtain ⟨e1, g1⟩ := and_inv g0
  clear g0
  obtain ⟨e2, g2⟩ := and_inv g1
  clear g1
  obtain ⟨name, qual, as, df, body, sc, dv, doc, pm, cdv, ct, oc, an, od, osl, h1, h2, h3, h4, h5, h6, _, h8⟩ := def_of e2
  clear e2
  obtain ⟨o, ho, g3⟩ := opt_inv g2
  clear g2
  obtain rfl := Option.some.inj (h1.symm.trans ho)
  obtain ⟨⟨fd, e2⟩, g4⟩ := any_inv g3
  clear g3
  obtain rfl := Data.func.inj e2
  obtain ⟨⟨T, e3⟩, g5⟩ := any_inv g4
  clear g4
  dsimp only at e3 g5
  subst e3
  obtain ⟨oT, hT, g6⟩ := opt_inv g5
  clear g5
  obtain ⟨⟨⟨x, n⟩, hd⟩, _⟩ := Option.isSome_iff_exists.mp g6
  obtain ⟨b1, g7⟩ := and_inv h8
  clear h8
  obtain ⟨b2, g8⟩ := and_inv g7
  clear g7
  obtain ⟨b3, b4⟩ := and_inv g8
  clear g8
  obtain ⟨⟨⟨p1, p2, p3⟩, e4⟩, _⟩ := Option.isSome_iff_exists.mp b3
  clear b3
  dsimp only at e4
  subst e4
  exact .mk fI name qual p1 p2 p3 df body sc T oT x n doc pm cdv ct oc an od osl hf (dec_inv e1) h1 h2 hT hd (dec_inv b1) (fun x hx => dec_inv (List.all_eq_true.mp b2 x hx)) h3 h4 h5 h6 b4
noncomputable def errB (K : Frag) (a : Adr) : Bool := eclsB K a && (decide (findIn K (.ref a.err) "__setattr__" = some (some (.builtin "object.__setattr__"))) && ((clsIn K a.err).any (fun cd => excOnly cd.mro) &&
  (hasDictIn K a.err && (decide (takerIn K a.err "what" = some none) && (decide (takerIn K a.err "at" = some none) && (keepIn K (.ref a.err) && einiB K a))))))
theorem err_of {K : Frag} {a : Adr} (e : errB K a = true) : ErrOk K a := by
  obtain ⟨e1, g1⟩ := and_inv e
  obtain ⟨e2, g2⟩ := and_inv g1
  obtain ⟨e3, g3⟩ := and_inv g2
  obtain ⟨e4, g4⟩ := and_inv g3
  obtain ⟨e5, g5⟩ := and_inv g4
  obtain ⟨e6, g6⟩ := and_inv g5
  obtain ⟨e7, e8⟩ := and_inv g6
  exact ⟨ecls_of e1, dec_inv e2, e3, e4, dec_inv e5, dec_inv e6, e7, eini_of e8⟩
/-- the facts in two parts, each by a check of its own -/
noncomputable def fcA (K : Frag) (a : Adr) : Bool :=
  errB K a && ((List.range 9).all (fun c => match initTab c with | some (n, l) => iniB K a c n l | none => true) && ((List.range 9).all (fun c => keepIn K (.ref (a.cls c)) && (hasDictIn K (a.cls c) &&
    (plainGet K (a.cls c) "" && (decide (findIn K (.ref (a.cls c)) "__setattr__" = some (some (.builtin "object.__setattr__"))) && (plainOver K (a.cls c) &&
    (fieldsOf c).all fun f => (match findIn K (.ref (a.cls c)) (nm f) with | some x => noGet K x | none => false) && decide (takerIn K (a.cls c) (nm f) = some none)))))) &&
  (List.range 9).all (fun c => (List.range 34).all fun m => match methTab c m with
    | some f => decide (findIn K (.ref (a.cls c)) (nm m) = some (some (.ref (a.fn f)))) && (isFn K (.ref (a.fn f)) && (decide (m ∉ fieldsOf c) && (keepIn K (.ref (a.fn f)) && (fieldsOf c).all fun g => decide (nm g ≠ nm m))))
    | none => true)))
noncomputable def fcB (K : Frag) (a : Adr) : Bool :=
  namesB K a && ((isNsK K cStatics && decide (nsK K cStatics "sys.recursionlimit" = none)) && (List.range 45).all (fun f => keepIn K (.ref (a.fn f))))
noncomputable def fcC (K : Frag) (a : Adr) : Bool := (List.range 45).all fun f => match fnTab f with | some fn => fnB K a f fn | none => true
noncomputable def factsB (K : Frag) (a : Adr) : Bool := (fcA K a && fcB K a) && fcC K a
set_option tactic.hygienic true in
theorem fa_of {K : Frag} {a : Adr} (e : factsB K a = true) : Fa K a := by
  unfold factsB at e
  obtain ⟨eA, eC⟩ := Bool.and_eq_true_iff.mp e
  obtain ⟨eA, eB⟩ := Bool.and_eq_true_iff.mp eA
  clear e
  obtain ⟨e1, e⟩ := Bool.and_eq_true_iff.mp eA
  obtain ⟨e2, e⟩ := Bool.and_eq_true_iff.mp e
  obtain ⟨e7, e8⟩ := Bool.and_eq_true_iff.mp e
  clear e eA
  obtain ⟨e3, e⟩ := Bool.and_eq_true_iff.mp eB
  obtain ⟨e4, e6⟩ := Bool.and_eq_true_iff.mp e
  clear e eB
  obtain ⟨e9, e10⟩ := Bool.and_eq_true_iff.mp e4
  have E7 : ∀ c, c < 9 → _ := fun c hc => by
    have q := all_range e7 hc
    simp only [Bool.and_eq_true, decide_eq_true_eq] at q
    exact q
  refine ⟨err_of e1, fun c n l h => ?_, names_of e3, fun B X => ⟨_, ns_of X e9, of_decide_eq_true e10⟩, fun f fn h => ?_, fun f l h => all_range e6 (fnName_lt h), fun c hc => (E7 c hc).1, fun c hc => (E7 c hc).2.1,
    fun c hc => (E7 c hc).2.2.1, fun c hc => ⟨(E7 c hc).2.2.2.1, (E7 c hc).2.2.2.2.1⟩, fun c f hc hf => ?_, fun c m f h => ?_⟩
  · have q := all_range e2 (initTab_lt h); rw [h] at q; exact ini_of q
  · have q := all_range eC (fnTab_lt h); rw [h] at q; exact fn_of q
  · have q := List.all_eq_true.mp (E7 c hc).2.2.2.2.2 f hf
    obtain ⟨q1, q2⟩ := Bool.and_eq_true_iff.mp q
    refine ⟨?_, of_decide_eq_true q2⟩
    split at q1
    · rename_i x hx; exact ⟨x, hx, q1⟩
    · cases q1
  · obtain ⟨hc, hm⟩ := methTab_lt h
    have q := all_range (all_range e8 hc) hm
    rw [h] at q
    dsimp only at q
    simp only [Bool.and_eq_true, decide_eq_true_eq, List.all_eq_true] at q
    obtain ⟨q1, q2, q3, q4, q5⟩ := q
    exact ⟨hc, q1, q2, q3, q4, q5⟩
end Mine
end
section
open PySem PySem.W PyProof.Rows PySem.Calls
namespace Mine
/-! the head: the top of the text run once, over the tree heap -/
noncomputable def topRunT (tb : String → Option Builtin) (p : Program) (w : World) (n₀ : Nat) : Nat → SharedT → Thread → Option SharedT
  | 0, _, _ => none
  | n + 1, s, t => match through t with
    | true => some s
    | false => match stepOk n₀ none t with
      | false => none
      | true => match stepT (denote tb) p w s t with
        | some (s', t') => topRunT tb p w n₀ n s' t'
        | none => none
theorem stepOk_none {n₀ : Nat} {ann : Option Value} {t : Thread} (h : stepOk n₀ none t = true) : stepOk n₀ ann t = true := by
  unfold stepOk at *
  obtain ⟨h1, h2⟩ := Bool.and_eq_true_iff.mp h
  rw [h1, Bool.true_and]
  revert h2
  cases t.cur <;> first | exact fun h => h | skip
  intro h2
  simp only [Bool.or_eq_true] at h2 ⊢
  rcases h2 with h2 | h2
  · exact .inl h2
  · cases h2
theorem topRun_of {tb : String → Option Builtin} {p : Program} {w : World} {n₀ : Nat} {ann : Option Value} : ∀ {n : Nat} {s s' : SharedT} {t : Thread}, topRunT tb p w n₀ n s t = some s' → topRun tb p w n₀ ann n s.abs t = some s'.abs
  | 0, _, _, _, h => by cases h
  | n + 1, s, s', t, h => by
    unfold topRunT at h
    unfold topRun
    cases ht : through t with
    | true => rw [ht] at h; cases h; rfl
    | false =>
      rw [ht] at h
      cases hk : stepOk n₀ none t with
      | false => rw [hk] at h; cases h
      | true =>
        rw [hk] at h
        rw [stepOk_none hk]
        cases hs : stepT (denote tb) p w s t with
        | none => rw [hs] at h; cases h
        | some r => obtain ⟨s₂, t₂⟩ := r; rw [hs] at h; rw [stepT_spec hs]; exact topRun_of h
noncomputable def plant : List Obj → Nat → BT → Option BT
  | [], _, t => some t
  | o :: r, n, t => match ((t.ins n o).get n).isSome with
    | true => plant r (n + 1) (t.ins n o)
    | false => none
theorem plant_of {life : Life} : ∀ {l : List Obj} {n : Nat} {t t' : BT}, plant l n t = some t' → absHeap t' (n + l.length) life = ⟨(absHeap t n life).objs ++ l.toArray, life⟩
  | [], n, t, t', h => by
    cases h
    show absHeap t n life = Heap.mk ((absHeap t n life).objs ++ #[]) life
    rw [Array.append_empty]
    rfl
  | o :: r, n, t, t', h => by
    unfold plant at h
    cases hk : ((t.ins n o).get n).isSome with
    | false => rw [hk] at h; cases h
    | true =>
      rw [hk] at h
      have q := plant_of (life := life) h
      rw [absHeap_ins hk, Nat.add_assoc, Nat.add_comm 1] at q
      rw [List.length_cons, q]
      show Heap.mk (((absHeap t n life).objs.push o) ++ r.toArray) life = Heap.mk _ life
      congr 1
      apply Array.ext'
      simp
noncomputable def s0 (H : Heap) (os : OsState) : Option SharedT := (plant H.objs.toList 0 .nil).map fun t => ⟨t, H.objs.toList.length, H.life, #[], boot_drawn, boot_toks, os⟩
theorem s0_abs {H : Heap} {os : OsState} {s : SharedT} (h : s0 H os = some s) : s.abs = ⟨H, #[], boot_drawn, boot_toks, os⟩ ∧ s.n = H.objs.size := by
  obtain ⟨t, ht, rfl⟩ := Option.map_eq_some_iff.mp h
  have q := plant_of (life := H.life) ht
  rw [Nat.zero_add] at q
  refine ⟨?_, rfl⟩
  show Shared.mk (absHeap _ _ _) _ _ _ _ = _
  rw [q]
  congr 1
  show Heap.mk (#[] ++ _) _ = _
  rw [Array.empty_append]
noncomputable def endT (pg : Program) (H : Heap) (w : World) (os : OsState) : Option SharedT := (s0 H os).bind fun s => topRunT treeTable pg w s.n 5000 s (topStub pg)
noncomputable def qv (pg : Program) : Program := { pg with main := { pg.main with body := pg.main.body.drop 51 } }
noncomputable def looseV : List Str := (["_wall", "Place", "MintError", "ReadError", "SIGNS", "ESCAPE_SIGNS", "ESCAPE_CODES", "TOP", "digit_of", "is_letter", "begins_name", "is_name_sign", "read_escape", "read_char", "number_worth", "local_worth"] : List Str) ++ (["Token", "LineReader", "line_tokens", "Cursor", "MOST_DEPTH", "Expr", "Number", "Symbol", "Here", "Unary", "Binary", "left_spine", "level_of", "binary_level", "read_part", "read_level"] : List Str) ++ (["read_expr", "expr_of", "bracketed", "show_leaf", "show_expr", "_law_LOW", "_law_MIDDLE", "_law_HIGH", "_law_next", "_law_leaf", "_law_tree", "_law_level", "_law_text", "_law_heard", "_law_without"] : List Str)
noncomputable def bb (pg : Program) (h0 : Heap) (s1 : Shared) : Bool := h0.isNs mainGlobals && (staticsOk (importedModules pg.main.body) h0 s1.heap && namesBound pg s1.heap && gensDone s1 && laidKept h0 s1.heap)
noncomputable def chk (pg : Program) (H : Heap) (L : List Str) (w : World) (os : OsState) := (endT pg H w os).map fun sT => (bb pg H sT.abs, openSeen (qv pg) L (importedModules pg.main.body) (fun _ => true) true sT.abs)
theorem chk_self : chk = chk := rfl
noncomputable def chF (pg : Program) (H : Heap) (F : Frag → Bool) (w : World) (os : OsState) := (endT pg H w os).map fun sT => F (kT sT)
theorem chF_self : chF = chF := rfl
end Mine
open PySem.W.Fast
set_option maxRecDepth 100000
set_option maxHeartbeats 0
lay_quick Mine.chk
name_quick chkQ for Mine.chk by Mine.chk_self
lay_quick Mine.chF
name_quick chFQ for Mine.chF by Mine.chF_self
namespace Mine
theorem chk_ok (w : World) (os : OsState) : PySem.W.Fast.chkQ PySem.Challenge.pw_pb0427_01 (boot_heap w.params) looseV w os = some (true, openGood (qv PySem.Challenge.pw_pb0427_01) looseV) := by kernel_rfl
theorem chA_ok (w : World) (os : OsState) : PySem.W.Fast.chFQ PySem.Challenge.pw_pb0427_01 (boot_heap w.params) (fun K => fcA K adr && fcB K adr) w os = some true := by kernel_rfl
theorem chC_ok (w : World) (os : OsState) : PySem.W.Fast.chFQ PySem.Challenge.pw_pb0427_01 (boot_heap w.params) (fun K => fcC K adr) w os = some true := by kernel_rfl
end Mine
end
section
open PySem PySem.W PyProof.Rows PySem.Calls
namespace Mine
noncomputable abbrev pw : Program := PySem.Challenge.pw_pb0427_01
theorem chF_end {w : World} {os : OsState} {F : Frag → Bool} {sT : SharedT} (h : endT pw (boot_heap w.params) w os = some sT) (c : PySem.W.Fast.chFQ pw (boot_heap w.params) F w os = some true) : F (kT sT) = true := by
  rw [← PySem.W.Fast.chFQ_eq] at c
  unfold chF at c
  rw [h] at c
  exact Option.some.inj c
theorem chk_end (w : World) (os : OsState) : ∃ sT, endT pw (boot_heap w.params) w os = some sT ∧ bb pw (boot_heap w.params) sT.abs = true ∧ openSeen (qv pw) looseV (importedModules pw.main.body) (fun _ => true) true sT.abs = openGood (qv pw) looseV ∧ factsB (kT sT) adr = true := by
  have c := chk_ok w os
  rw [← PySem.W.Fast.chkQ_eq] at c
  unfold chk at c
  obtain ⟨sT, h1, h2⟩ := Option.map_eq_some_iff.mp c
  obtain ⟨e1, e2⟩ := Prod.mk.inj h2
  exact ⟨sT, h1, e1, e2, Bool.and_eq_true_iff.mpr ⟨chF_end h1 (chA_ok w os), chF_end h1 (chC_ok w os)⟩⟩
noncomputable def Yv (s : Shared) : Bool := @decide (∃ K, factsB K adr = true ∧ K.In s.heap) (Classical.propDecidable _)
theorem left_of {p q : Program} {loose : List Str} {N : Nat} (ho : opening p = plainProg p.main.scope.names) (hN : Nat.ble 600 N = true) (hf : ∀ s, fenceModules? p s = some s)
    (c : ∀ w os, ∃ s sT, s0 (boot_heap w.params) os = some s ∧ topRunT treeTable p w s.n N s (topStub p) = some sT ∧ (boot_heap w.params).isNs mainGlobals = true ∧ (staticsOk (importedModules p.main.body) (boot_heap w.params) sT.abs.heap && namesBound p sT.abs.heap && gensDone sT.abs && laidKept (boot_heap w.params) sT.abs.heap) = true ∧
      openSeen q loose (importedModules p.main.body) (fun _ => true) true sT.abs = openGood q loose ∧ Yv sT.abs = true) : LeftO p q loose (fun _ => true) Yv (fun _ => true) N := by
  intro w
  have hb := boot_open (p := p) (N := N) ho hN hf w
  obtain ⟨s₀, h1, h2⟩ := Option.map_eq_some_iff.mp hb
  obtain ⟨H, G, D, Tk, os⟩ := s₀
  obtain ⟨e1, h2⟩ := Prod.mk.inj h2
  obtain ⟨e2, h2⟩ := Prod.mk.inj h2
  obtain ⟨e3, e4⟩ := Prod.mk.inj h2
  dsimp only at e1 e2 e3 e4
  subst e1 e2 e3 e4
  obtain ⟨s, sT, hs, hr, b1, b2, hseen, hf⟩ := c w os
  obtain ⟨a1, a2⟩ := s0_abs hs
  have run := topRun_of (ann := (boot_heap w.params).nsMap mainGlobals "__annotations__") hr
  rw [a1, a2] at run
  unfold openEnds
  rw [h1, Option.bind_some]
  have e : topFrom treeTable p w N ⟨boot_heap w.params, #[], boot_drawn, boot_toks, os⟩ = some sT.abs := by
    unfold topFrom
    have q : ((boot_heap w.params).isNs mainGlobals && (#[] : Array GenState).size == 0) = true := by rw [b1]; rfl
    dsimp only
    rw [q]
    dsimp only
    rw [run, Option.bind_some, b2]
  rw [e, Option.map_some, hseen, hf]
theorem open_ok : opening pw = plainProg pw.main.scope.names := by kernel_rfl
theorem fence_ok (s : Shared) : fenceModules? pw s = some s := by kernel_rfl
theorem left : LeftO pw (qv pw) looseV (fun _ => true) Yv (fun _ => true) 5000 := by
  refine left_of open_ok (by decide) fence_ok fun w os => ?_
  obtain ⟨sT, hT, hbb, hseen, hf⟩ := chk_end w os
  obtain ⟨s, hs, hr⟩ := Option.bind_eq_some_iff.mp hT
  obtain ⟨b1, b2⟩ := Bool.and_eq_true_iff.mp hbb
  exact ⟨s, sT, hs, hr, b1, b2, hseen, @decide_eq_true _ (Classical.propDecidable _) ⟨_, hf, kT_in sT⟩⟩
theorem has_int {R : WRecords} : ∀ {x : WData}, WShape.has R x .int = true → ∃ i, x = .int i
  | .int i, _ => ⟨i, rfl⟩
theorem ints_wof {R : WRecords} : ∀ {xs : List WData}, WShape.hasItems R xs .int = true → ∃ l : List Int, xs = l.map .int
  | [], _ => ⟨[], rfl⟩
  | x :: xs, h => by
    obtain ⟨h1, h2⟩ := (Bool.and_eq_true _ _).mp h
    obtain ⟨l, rfl⟩ := ints_wof h2
    obtain ⟨i, rfl⟩ := has_int h1
    exact ⟨i :: l, rfl⟩
theorem has_ints {R : WRecords} : ∀ {x : WData}, WShape.has R x (.list .int) = true → ∃ l : List Int, x = .list (l.map .int)
  | .list xs, h => by
    have h : (WShape.hasItems R xs .int || false) = true := h
    rw [Bool.or_false] at h
    obtain ⟨l, rfl⟩ := ints_wof h
    exact ⟨l, rfl⟩
theorem reads_ints {R : WRecords} {cl : Str → Option Addr} {h : Heap} {clA : Nat → Addr} : ∀ {l : List Int} {vs : List V} {as : List Addr}, ReadsAllW R cl h vs (l.map .int) as → (l.map PV.int).length = vs.length ∧ ∀ (i : Nat) (p : PV) (v : V), (l.map PV.int)[i]? = some p → vs[i]? = some v → RepV clA h [] p v
  | [], _, _, .nil => ⟨rfl, fun i p v e => by simp at e⟩
  | i :: l, _, _, .cons r1 r2 => by
    obtain ⟨h1, h2⟩ := reads_ints (clA := clA) r2
    refine ⟨by simp only [List.map_cons, List.length_cons]; rw [h1], fun k p v e1 e2 => ?_⟩
    cases k with
    | zero => cases e1; cases e2; cases r1; exact .int _ _
    | succ k => exact h2 k p v e1 e2
theorem post_ok (l : List WData) : PySem.Challenge.rw_pb0427_01.row.claim.post [WData.list l] (WData.bool true) [WData.list l] = true := by kernel_rfl
theorem len_of {R : WRecords} {l : List Int} (h : WTm.holds R PySem.Challenge.rw_pb0427_01.row.pre { args := [.list (l.map .int)] } = true) : l.length ≤ 63 := by
  unfold WTm.holds at h
  change (match (WTm.value R (OpenLaw.pre PySem.Challenge.rw_pb0427_01) { args := [.list (l.map .int)] }) with | some (.bool true) => true | _ => false) = true at h
  unfold OpenLaw.pre at h
  simp only [PySem.Challenge.rw_pb0427_01] at h
  simp [WTm.value] at h
  have e : less? (.int 63) (.int (l.length : Int)) = some (decide ((63 : Int) < (l.length : Int))) := rfl
  rw [e] at h
  by_cases q : (63 : Int) < (l.length : Int)
  · rw [decide_eq_true q] at h; cases h
  · lia
theorem walk (L : ∀ l : List Int, l.length ≤ 63 → ∃ σ', ev 230 (.call 44 [.lis (l.map .int)] []) (.v (.bool true) σ')) (d : DefRec) (kwd : List (Str × PySem.Expr)) (hn : d.name = st [108, 97, 119]) :
    WalkO (qv pw) looseV (fun _ _ => True) (fun _ h => ∃ K, factsB K adr = true ∧ K.In h) PySem.Challenge.rw_pb0427_01.row.toRowW d kwd fun f vs => PySem.call f vs := by
  intro w s₀ s₁ mg mb G Y a o pm cd doc dV kV ho hd hcd hD hmg hg args vals as hpre hlay hrd hwl hlo
  obtain ⟨K, hK, KX⟩ := Y
  have F := fa_of hK
  obtain ⟨mg', mb', N⟩ := F.names s₁.heap KX
  obtain rfl : mg = mg' := (Heap.Ns.eq_nsMap G.T.g).trans (Heap.Ns.eq_nsMap N.g).symm
  have ha : a = adr.fn 44 := by
    have q := N.fn 44 _ rfl
    rw [hn] at hmg
    rw [hmg] at q
    injection q with q
    injection q
  subst ha
  have hs : WShape.hasAll PySem.Challenge.rw_pb0427_01.row.records args [.list .int] = true := (Bool.and_eq_true_iff.mp hpre).1
  obtain ⟨l, rfl⟩ : ∃ l : List Int, args = [.list (l.map .int)] := by
    cases args with
    | nil => cases hs
    | cons x r =>
      obtain ⟨h1, h2⟩ := (Bool.and_eq_true _ _).mp hs
      cases r with
      | cons _ _ => cases h2
      | nil =>
        obtain ⟨l, rfl⟩ := has_ints h1
        exact ⟨l, rfl⟩
  obtain ⟨v, vs', hv, rfl⟩ : ∃ v vs', vals = v :: vs' ∧ vs' = [] := by
    cases hrd with
    | cons r1 r2 => cases r2; exact ⟨_, _, rfl, rfl⟩
  subst hv
  have h63 : l.length ≤ 63 := len_of (Bool.and_eq_true_iff.mp hpre).2
  obtain ⟨σ', hl⟩ := L l h63
  have good := sound (P := pw) (w := w) (K := K) (a := adr) 230 _ _ hl
  have rep : Reps adr s₁.heap [] [.lis (l.map .int)] [v] := by
    refine ⟨rfl, fun i p v' e1 e2 => ?_⟩
    cases i with
    | succ i => cases e1
    | zero =>
      cases e1; cases e2
      cases hrd with
      | cons r1 r2 =>
        cases r1 with
        | list g1 g2 g3 g4 =>
          obtain ⟨z1, z2⟩ := reads_ints (clA := adr.cls) g4
          exact .lis g1 g2 g3 (by rw [z1, Array.length_toList]) fun i p v a b => z2 i p v a (by rw [Array.getElem?_toList]; exact b)
  refine wpAny_call ?_
  refine good [] callerA s₁.heap [] s₁ [v] F ⟨rfl, rfl, by decide, by decide⟩ ⟨⟨KX, fun _ _ e => e, rfl, (fun i o p e => by cases e), fun a h => ?_, List.Pairwise.nil⟩, fun a h => ?_, trivial⟩ rep _ fun v s' ok => ?_
  · obtain ⟨p, hp, _⟩ := h; cases hp
  · obtain ⟨p, hp, _⟩ := h; cases hp
  · obtain ⟨B', ρ', hst, _, hr⟩ := ok
    cases hr
    refine GoodW.toG ⟨.inl ⟨.bool true, .bool true, [], rfl, fun cls => rfl, .bool true, post_ok _, fun _ => ⟨List.nodup_nil, fun a ha => nomatch ha⟩⟩, fun b o e => hst.old b o e (fun h => ?_) (fun h => nomatch h), hst.os, hst.gens.trans hg⟩
    obtain ⟨p, hp, _⟩ := h; cases hp
/-! the row is well said: the looks at the text, one by one -/
noncomputable def wB (p : Program) : Bool := namesResolve p
noncomputable def wD (b : Bool) (f : Option (List Str)) (l : List Str) (ss : List XS) : Bool := noRoadLSs { strict := b, foot := f, bare := l } ss
noncomputable def wE (p : Program) : Bool := namesMeet p p.main.body fun _ n => attrL n
noncomputable def wR (p : Program) : Bool × List Str := (!(importedModules p.main.body).all cThrough.contains, (["vars", "dir", "locals"] : List Str).filter (readsOut p p.main.body))
theorem wB_self : wB = wB := rfl
theorem wD_self : wD = wD := rfl
theorem wE_self : wE = wE := rfl
theorem wR_self : wR = wR := rfl
end Mine
open PySem.W.Fast
set_option maxRecDepth 100000
set_option maxHeartbeats 0
lay_quick Mine.wB Mine.wD Mine.wE Mine.wR
name_quick wBQ for Mine.wB by Mine.wB_self
name_quick wDQ for Mine.wD by Mine.wD_self
name_quick wEQ for Mine.wE by Mine.wE_self
name_quick wRQ for Mine.wR by Mine.wR_self
namespace Mine
theorem wB_ok : PySem.W.Fast.wBQ pw = true := by kernel_rfl
theorem wD_ok : PySem.W.Fast.wDQ false none [] pw.main.body = true := by kernel_rfl
theorem wE_ok : PySem.W.Fast.wEQ pw = true := by kernel_rfl
theorem wR_ok : PySem.W.Fast.wRQ pw = (false, []) := by kernel_rfl
theorem wH_ok : PySem.W.Fast.wDQ true (some PySem.Challenge.rw_pb0427_01.bound') [] PySem.Challenge.rw_pb0427_01.footing = true := by kernel_rfl
theorem wN_ok : namesMeet PySem.Challenge.rw_pb0427_01.prog PySem.Challenge.rw_pb0427_01.above (fun _ n => !PySem.Challenge.rw_pb0427_01.own.contains n) = true := by kernel_rfl
theorem looks_of {p : Program} (hR : wR p = (false, [])) (hB : wB p = true) (hD : wD false none [] p.main.body = true) (hE : wE p = true) (hA : (sreFenced p.main && ((moduleNames p.main.body).isEmpty || lookedIntoSs (moduleNames p.main.body) p.main.body)) = true)
    (hC : p.boundNames.all (fun n => !worldNames.contains n) = true) : looksOpen p = true := by
  unfold wR at hR
  obtain ⟨h1, h2⟩ := Prod.mk.inj hR
  unfold wB at hB
  unfold wD at hD
  unfold wE at hE
  unfold looksOpen
  rw [h1, h2]
  exact Bool.and_eq_true_iff.mpr ⟨Bool.and_eq_true_iff.mpr ⟨Bool.and_eq_true_iff.mpr ⟨Bool.and_eq_true_iff.mpr ⟨hA, hB⟩, hC⟩, hD⟩, hE⟩
theorem looks : looksOpen pw = true :=
  looks_of ((congrFun PySem.W.Fast.wRQ_eq pw).trans wR_ok) ((congrFun PySem.W.Fast.wBQ_eq pw).trans wB_ok) ((congrFun (congrFun (congrFun (congrFun PySem.W.Fast.wDQ_eq false) none) []) pw.main.body).trans wD_ok) ((congrFun PySem.W.Fast.wEQ_eq pw).trans wE_ok) (by kernel_rfl) (by kernel_rfl)
theorem roads : noRoadLSs { strict := true, foot := some PySem.Challenge.rw_pb0427_01.bound', writes := PySem.Challenge.rw_pb0427_01.writes, may := PySem.Challenge.rw_pb0427_01.may } PySem.Challenge.rw_pb0427_01.footing = true :=
  (congrFun (congrFun (congrFun (congrFun PySem.W.Fast.wDQ_eq true) _) []) _).trans wH_ok
theorem part : PySem.Challenge.rw_pb0427_01.row.partSaid = true := by
  unfold OpenRow.partSaid
  iterate 13 refine Bool.and_eq_true_iff.mpr ⟨?_, by kernel_rfl⟩
  exact looks
theorem said : PySem.Challenge.rw_pb0427_01.wellSaid = true := by
  unfold OpenLaw.wellSaid
  refine Bool.and_eq_true_iff.mpr ⟨?_, by as_aux_lemma => kernel_rfl⟩
  refine Bool.and_eq_true_iff.mpr ⟨?_, wN_ok⟩
  iterate 10 refine Bool.and_eq_true_iff.mpr ⟨?_, by as_aux_lemma => kernel_rfl⟩
  refine Bool.and_eq_true_iff.mpr ⟨?_, roads⟩
  iterate 5 refine Bool.and_eq_true_iff.mpr ⟨?_, by as_aux_lemma => kernel_rfl⟩
  unfold OpenRow.wellSaid
  exact Bool.and_eq_true_iff.mpr ⟨Bool.and_eq_true_iff.mpr ⟨part, by kernel_rfl⟩, by kernel_rfl⟩
theorem holds_of (L : ∀ l : List Int, l.length ≤ 63 → ∃ σ', ev 230 (.call 44 [.lis (l.map .int)] []) (.v (.bool true) σ')) : PySem.Challenge.rw_pb0427_01.Holds := by
  refine holds_law said fun hs => ?_
  refine holds_open (q := qv pw) (loose := looseV) (Xt := fun _ => true) (XP := fun _ _ => True) (Yf := Yv) (Ya := fun _ => true) (YP := fun _ h => ∃ K, factsB K adr = true ∧ K.In h) (N := 5000) left (fun w s h => @of_decide_eq_true _ (Classical.propDecidable _) h) (fun w h h' ⟨K, a, b⟩ k => ⟨K, a, b.keeps k⟩)
    (fun _ _ => trivial) (fun _ _ _ _ _ => trivial) (by rfl) (by rfl) (by rfl) (fun s e => recFacts_nil rfl) (by rfl) hs (by decide +kernel) ⟨rfl, rfl, rfl, rfl, rfl, by decide +kernel⟩ ⟨[.list []], by decide +kernel, by decide +kernel⟩ ?hc
  exact walk L _ _ rfl
end Mine
end
section
namespace Mine
variable {d : Nat} {ρ : Loc} {σ : Store}
-- shapes
theorem cmp_lt (a b : Int) : cmpV .lt (.int a) (.int b) = some (decide (a < b)) := rfl
theorem cmp_gt (a b : Int) : cmpV .gt (.int a) (.int b) = some (decide (b < a)) := rfl
theorem cmp_ge (a b : Int) : cmpV .ge (.int a) (.int b) = some (decide (b ≤ a)) := rfl
theorem cmp_eqi (a b : Int) : cmpV .eq (.int a) (.int b) = some (a == b) := rfl
theorem cmp_eqs (a b : List Nat) : cmpV .eq (.str a) (.str b) = some (a == b) := rfl
theorem cmp_nes (a b : List Nat) : cmpV .ne (.str a) (.str b) = some (!(a == b)) := rfl
theorem bop_addi (a b : Int) : bopV .add (.int a) (.int b) = some (.int (a + b)) := rfl
theorem bop_subi (a b : Int) : bopV .sub (.int a) (.int b) = some (.int (a - b)) := rfl
theorem bop_adds (a b : List Nat) : bopV .add (.str a) (.str b) = if a.length + b.length ≤ 65536 then some (.str (a ++ b)) else none := rfl
theorem bi_ord (c : Nat) : biV σ .ord [.str [c]] = some (.int c) := rfl
theorem bop_mul (a b : Int) (h : 0 ≤ b ∧ b < 1073741824) : bopV .mul (.int a) (.int b) = some (.int (a * b)) := if_pos h
theorem bi_len (l : List Nat) (h : l.length ≤ 65536) : biV σ .len [.str l] = some (.int l.length) := if_pos h
theorem bi_lent (l : List PV) (h : l.length ≤ 65536) : biV σ .len [.tup l] = some (.int l.length) := if_pos h

theorem ev_to {c : Cfg} {r r' : Out} (h : ev d c r) (e : r = r') : ev d c r' := e ▸ h
theorem es_1 {x : E} {p : PV} {σ' : Store} (h1 : ev d (.e x ρ σ) (.v p σ')) : ev d (.es [x] ρ σ) (.vs [p] σ') := es_c h1 ev_es_nil
theorem ev_two {x y : E} {p q : PV} {o o' : Cop} {z : E} {u : PV} {b b' : Bool} (h1 : ev d (.e x ρ σ) (.v p σ)) (h2 : ev d (.e y ρ σ) (.v q σ)) (h3 : ev d (.e z ρ σ) (.v u σ)) (c1 : cmpV o p q = some b) (c2 : cmpV o' q u = some b') :
    ev d (.e (.cmp2 x o y o' z) ρ σ) (.v (.bool (b && b')) σ) :=
  match b, c1 with
  | false, c1 => is_cmp2f h1 h2 c1
  | true, c1 => is_cmp2t h1 h2 c1 h3 c2
theorem ev_rng (i : Nat) (c lo hi : Int) (h : locAt ρ i = some (.int c)) : ev d (.e (.cmp2 (.int lo) .le (.loc i) .le (.int hi)) ρ σ) (.v (.bool (decide (lo ≤ c) && decide (c ≤ hi))) σ) :=
  ev_two ev_e_int (is_loc h) ev_e_int rfl rfl
/-- a lone if that is not taken -/
theorem ss_skip {t : E} {a r : List S} {σ' : Store} {o : Out} (h : ev d (.e t ρ σ) (.v (.bool false) σ')) (h2 : ev d (.ss r ρ σ') o) : ev d (.ss (.ife t a [] :: r) ρ σ) o :=
  ss_next (do_ife h ev_ss_nil) h2
theorem ss_neg {t : E} {a r : List S} {σ' : Store} {b : Bool} {o : Out} (h : ev d (.e t ρ σ) (.v (.bool b) σ')) (hb : b = false) (h2 : ev d (.ss r ρ σ') o) : ev d (.ss (.ife t a [] :: r) ρ σ) o := ss_skip (hb ▸ h) h2
theorem ss_take {t : E} {a c r : List S} {b : Bool} {v : PV} {ρ' : Loc} {σ' σ'' : Store} (h : ev d (.e t ρ σ) (.v (.bool b) σ')) (h2 : ev d (.ss (if b then a else c) ρ σ') (.fl (.ret v) ρ' σ'')) : ev d (.ss (.ife t a c :: r) ρ σ) (.fl (.ret v) ρ' σ'') :=
  ss_retd (do_ife h h2)
theorem ss_ret1 {a : E} {v : PV} {σ' : Store} (h : ev d (.e a ρ σ) (.v v σ')) : ev d (.ss [.ret a] ρ σ) (.fl (.ret v) ρ σ') := ss_retd (do_ret h)
theorem or_cons {x y : E} {r : List E} {p q : Bool} {σ₁ : Store} (h1 : ev d (.e x ρ σ) (.v (.bool p) σ)) (h2 : ev d (.bools false (y :: r) ρ σ) (.v (.bool q) σ)) : ev d (.bools false (x :: y :: r) ρ σ) (.v (.bool (p || q)) σ) :=
  match p, h1 with
  | false, h1 => bools_t h1 h2
  | true, h1 => bools_f h1
theorem and_cons {x y : E} {r : List E} {p q : Bool} {σ₁ : Store} (h1 : ev d (.e x ρ σ) (.v (.bool p) σ)) (h2 : ev d (.bools true (y :: r) ρ σ) (.v (.bool q) σ)) : ev d (.bools true (x :: y :: r) ρ σ) (.v (.bool (p && q)) σ) :=
  match p, h1 with
  | false, h1 => bools_f h1
  | true, h1 => bools_t h1 h2
theorem bools_stop {k b : Bool} {x y : E} {r : List E} {σ' : Store} (h : ev d (.e x ρ σ) (.v (.bool b) σ')) (hb : b = !k) : ev d (.bools k (x :: y :: r) ρ σ) (.v (.bool (!k)) σ') := bools_f (hb ▸ h)
theorem bools_go {k b : Bool} {x y : E} {r : List E} {σ' : Store} {o : Out} (h : ev d (.e x ρ σ) (.v (.bool b) σ')) (hb : b = k) (h2 : ev d (.bools k (y :: r) ρ σ') o) : ev d (.bools k (x :: y :: r) ρ σ) o := bools_t (hb ▸ h) h2
theorem fr_nil {i : Nat} {b : List S} : ev d (.fr i (.vals []) b ρ σ) (.fl .next ρ σ) := fr_end rfl
theorem fr_cons {i : Nat} {b : List S} {v : PV} {r : List PV} {ρ' : Loc} {σ' : Store} {o : Out} (h : ev d (.ss b (ρ.set i (some v)) σ) (.fl .next ρ' σ')) (h2 : ev d (.fr i (.vals r) b ρ' σ') o) : ev d (.fr i (.vals (v :: r)) b ρ σ) o := fr_turn rfl h h2
theorem fr_ret {i : Nat} {b : List S} {v w : PV} {r : List PV} {ρ' : Loc} {σ' : Store} (h : ev d (.ss b (ρ.set i (some v)) σ) (.fl (.ret w) ρ' σ')) : ev d (.fr i (.vals (v :: r)) b ρ σ) (.fl (.ret w) ρ' σ') := fr_retd rfl h
theorem fr_lst {x i k : Nat} {b : List S} {L : List PV} {v : PV} {ρ' : Loc} {σ' : Store} {o : Out} (hi : σ[i]? = some (.lst L)) (hv : L[k]? = some v) (h : ev d (.ss b (ρ.set x (some v)) σ) (.fl .next ρ' σ')) (h2 : ev d (.fr x (.lst i (k + 1)) b ρ' σ') o) : ev d (.fr x (.lst i k) b ρ σ) o :=
  fr_turn (by simp only [srcNext, hi, hv]; rfl) h h2
theorem fr_lend {x i k : Nat} {b : List S} {L : List PV} (hi : σ[i]? = some (.lst L)) (hv : L[k]? = none) : ev d (.fr x (.lst i k) b ρ σ) (.fl .next ρ σ) :=
  fr_end (by simp only [srcNext, hi, hv]; rfl)
end Mine
end
section
namespace Mine
variable {d : Nat} {ρ : Loc} {σ : Store}

noncomputable def digitV (c : Int) : Int := if 48 ≤ c ∧ c ≤ 57 then c - 48 else if 97 ≤ c ∧ c ≤ 102 then c - 87 else if 65 ≤ c ∧ c ≤ 70 then c - 55 else 16
theorem digit_turn {c : Nat} {lo hi n v u : Int} {r : List S} {l : Loc} (hl : locAt l 1 = some (.int c)) (h : (if lo ≤ c ∧ c ≤ hi then (c : Int) - n else v) = u) (h2 : v = u → ∃ ρ', ev d (.ss r l σ) (.fl (.ret (.int u)) ρ' σ)) :
    ∃ ρ', ev d (.ss (.ife (.cmp2 (.int lo) .le (.loc 1) .le (.int hi)) [.ret (.bop .sub (.loc 1) (.int n))] [] :: r) l σ) (.fl (.ret (.int u)) ρ' σ) := by
  have t := ev_rng (d := d) (σ := σ) 1 c lo hi hl
  by_cases hc : lo ≤ (c : Int) ∧ (c : Int) ≤ hi
  · rw [if_pos hc] at h
    subst h
    rw [decide_eq_true hc.1, decide_eq_true hc.2] at t
    exact ⟨_, ss_take t (ss_ret1 (is_bop (is_loc hl) ev_e_int (bop_subi _ _)))⟩
  · rw [if_neg hc] at h
    obtain ⟨ρ', h2⟩ := h2 h
    rw [← Bool.decide_and, decide_eq_false hc] at t
    exact ⟨ρ', ss_skip t h2⟩
theorem ev_digit {c : Nat} : ev (d + 1) (.call 0 [.str [c]] σ) (.v (.int (digitV c)) σ) := by
  have go : ∃ ρ', ev d (.ss b0 [some (.str [c]), none] σ) (.fl (.ret (.int (digitV c))) ρ' σ) := by
    have h0 : ev d (.s (.asg 1 (.bi .ord [(.loc 0)])) [some (.str [c]), none] σ) (.fl .next [some (.str [c]), some (.int c)] σ) := do_asg (is_bi (es_1 (is_loc rfl)) (bi_ord c))
    obtain ⟨ρ', h⟩ := digit_turn (d := d) (σ := σ) (c := c) (l := [some (.str [c]), some (.int c)]) rfl (rfl : digitV c = _) fun q1 => digit_turn rfl q1 fun q2 => digit_turn rfl q2 fun q3 => by rw [← q3]; exact ⟨_, ss_ret1 ev_e_int⟩
    exact ⟨ρ', ss_next h0 h⟩
  obtain ⟨ρ', h⟩ := go
  exact do_call (fn := ⟨1, 2, b0⟩) rfl rfl h

noncomputable def isLetter (c : Nat) : Bool := (decide ((97 : Int) ≤ c) && decide ((c : Int) ≤ 122)) || (decide ((65 : Int) ≤ c) && decide ((c : Int) ≤ 90))
theorem ev_letter {c : Nat} : ev (d + 1) (.call 1 [.str [c]] σ) (.v (.bool (isLetter c)) σ) :=
  do_call (fn := ⟨1, 2, b1⟩) rfl rfl (ρ' := [some (.str [c]), some (.int c)])
    (ss_next (do_asg (is_bi (es_1 (is_loc rfl)) (bi_ord c))) (ss_ret1 (ev_e_or (or_cons (σ₁ := σ) (ev_rng 1 c 97 122 rfl) (bools_one (ev_rng 1 c 65 90 rfl))))))
noncomputable def beginsName (c : Nat) : Bool := isLetter c || ([c] == [95] || [c] == [46])
theorem ev_begins {c : Nat} : ev (d + 2) (.call 2 [.str [c]] σ) (.v (.bool (beginsName c)) σ) :=
  do_call (fn := ⟨1, 1, b2⟩) rfl rfl (ρ' := [some (.str [c])])
    (ss_ret1 (ev_e_or (or_cons (σ₁ := σ) (is_call (es_1 (is_loc rfl)) ev_letter) (or_cons (σ₁ := σ) (is_cmp (is_loc rfl) ev_e_str (cmp_eqs _ _)) (bools_one (is_cmp (is_loc rfl) ev_e_str (cmp_eqs _ _)))))))
noncomputable def nameSign (c : Nat) : Bool := (decide ((48 : Int) ≤ c) && decide ((c : Int) ≤ 57)) || ((decide ((97 : Int) ≤ c) && decide ((c : Int) ≤ 122)) || ((decide ((65 : Int) ≤ c) && decide ((c : Int) ≤ 90)) || ([c] == [95] || ([c] == [46] || [c] == [36]))))
theorem ev_nameSign {c : Nat} : ev (d + 1) (.call 3 [.str [c]] σ) (.v (.bool (nameSign c)) σ) :=
  have t (n : Nat) : ev d (.e (.cmp (.loc 0) .eq (.str [n])) [some (.str [c]), some (.int c)] σ) (.v (.bool ([c] == [n])) σ) := is_cmp (is_loc rfl) ev_e_str (cmp_eqs _ _)
  do_call (fn := ⟨1, 2, b3⟩) rfl rfl (ρ' := [some (.str [c]), some (.int c)])
    (ss_next (do_asg (is_bi (es_1 (is_loc rfl)) (bi_ord c))) (ss_ret1 (ev_e_or (or_cons (σ₁ := σ) (ev_rng 1 c 48 57 rfl) (or_cons (σ₁ := σ) (ev_rng 1 c 97 122 rfl) (or_cons (σ₁ := σ) (ev_rng 1 c 65 90 rfl) (or_cons (σ₁ := σ) (t 95) (or_cons (σ₁ := σ) (t 46) (bools_one (t 36))))))))))
end Mine
end
section
namespace Mine
variable {d : Nat} {ρ : Loc} {σ : Store}

noncomputable def isDigit (c : Nat) : Prop := 48 ≤ c ∧ c ≤ 57
theorem digitV_of {c : Nat} (h : isDigit c) : digitV c = (c : Int) - 48 := by
  unfold digitV isDigit at *
  rw [if_pos (by lia)]
noncomputable def worthFrom (w : Int) (l : List Nat) : Int := l.foldl (fun (w : Int) (c : Nat) => w * 10 + ((c : Int) - 48)) w
noncomputable def numBody : List S := [.asg 5 (.call 0 [(.loc 4)]), .ife (.cmp (.loc 5) .ge (.loc 1)) [.ret .bad] [], .asg 3 (.bop .add (.bop .mul (.loc 3) (.loc 1)) (.loc 5))]
theorem num_turn {c : Nat} {x : PV} {w : Int} {b : Option PV} (hc : isDigit c) : ev (d + 1) (.ss numBody [some x, some (.int 10), some (.int 0), some (.int w), some (.str [c]), b] σ)
    (.fl .next [some x, some (.int 10), some (.int 0), some (.int (w * 10 + ((c : Int) - 48))), some (.str [c]), some (.int ((c : Int) - 48))] σ) := by
  have h := ev_digit (d := d) (σ := σ) (c := c)
  rw [digitV_of hc] at h
  refine ss_next (do_asg (is_call (es_1 (is_loc rfl)) h)) (ss_neg (is_cmp (is_loc rfl) (is_loc rfl) (cmp_ge _ _)) (decide_eq_false ?_) (ss_next (do_asg (is_bop (is_bop (is_loc rfl) (is_loc rfl) (bop_mul w 10 ?_)) (is_loc rfl) (bop_addi _ _))) ev_ss_nil))
  · unfold isDigit at hc; lia
  · decide
theorem num_loop : ∀ (l : List Nat) (x : PV) (w : Int) (a b : Option PV), (∀ c ∈ l, isDigit c) → ∃ a' b', ev (d + 1) (.fr 4 (.vals (l.map fun c => .str [c])) numBody [some x, some (.int 10), some (.int 0), some (.int w), a, b] σ)
    (.fl .next [some x, some (.int 10), some (.int 0), some (.int (worthFrom w l)), a', b'] σ)
  | [], x, w, a, b, _ => ⟨a, b, fr_nil⟩
  | c :: l, x, w, a, b, h =>
    have ⟨a', b', g⟩ := num_loop l x _ _ _ fun y hy => h y (.tail _ hy)
    ⟨a', b', fr_cons (num_turn (h c (.head _))) g⟩

/-- a word of figures, without a nought ahead -/
structure Numeral (l : List Nat) : Prop where
  dig : ∀ c ∈ l, isDigit c
  ne : l ≠ []
  lead : l.length ≤ 1 ∨ l[0]? ≠ some 48
  len : l.length ≤ 65536
theorem sub_at {t : List Nat} {n c : Nat} (h : t[n]? = some c) (hz : t.length ≤ 65536) : subV σ (.str t) (.int n) = some (.str [c]) := by
  have : n < t.length := (List.getElem?_eq_some_iff.mp h).1
  have h2 : (0 : Int) ≤ n ∧ (n : Int) < 1073741824 := by lia
  simp only [subV, h2, and_self, if_true, Int.toNat_natCast, h, Option.map_some]
theorem worth_lead {l : List Nat} (h : Numeral l) : ev d (.e (.and [(.cmp (.bi .len [(.loc 0)]) .gt (.int 1)), (.cmp (.sub (.loc 0) (.int 0)) .eq (.str [48]))]) [some (.str l), some (.int 10), some (.int 0), none, none, none] σ) (.v (.bool false) σ) := by
  have t : ev d (.e (.cmp (.bi .len [(.loc 0)]) .gt (.int 1)) [some (.str l), some (.int 10), some (.int 0), none, none, none] σ) (.v (.bool (decide ((1 : Int) < l.length))) σ) := is_cmp (is_bi (es_1 (is_loc rfl)) (bi_len l h.len)) ev_e_int (cmp_gt _ _)
  refine ev_e_and ?_
  by_cases h1 : l.length ≤ 1
  · rw [decide_eq_false (by lia)] at t
    exact bools_f t
  · have hc := List.getElem?_eq_getElem (List.length_pos_iff.mpr h.ne)
    have hc' : l[0]'(List.length_pos_iff.mpr h.ne) ≠ 48 := fun q => (h.lead.resolve_left h1) (by rw [hc, q])
    have u := and_cons (σ₁ := σ) t (bools_one (is_cmp (is_sub (x := .loc 0) (is_loc rfl) ev_e_int (sub_at hc h.len)) (ev_e_str (l := [48])) (cmp_eqs _ _)))
    rw [show ([l[0]'(List.length_pos_iff.mpr h.ne)] == [48]) = false from by simpa using hc', Bool.and_false] at u
    exact u
theorem ev_worth {l : List Nat} (h : Numeral l) : ev (d + 2) (.call 4 [.str l] σ) (.v (.int (worthFrom 0 l)) σ) := by
  obtain ⟨a', b', hl⟩ := num_loop (d := d) (σ := σ) l (.str l) 0 none none h.dig
  have hne : 0 < l.length := List.length_pos_iff.mpr h.ne
  refine do_call (fn := ⟨1, 6, b4⟩) rfl rfl (ρ' := [some (.str l), some (.int 10), some (.int 0), some (.int (worthFrom 0 l)), a', b'])
    (ss_next (do_asg ev_e_int) (ss_next (do_asg ev_e_int) (ss_skip (worth_lead h) (ss_neg (is_cmp (is_loc rfl) (is_bi (es_1 (is_loc rfl)) (bi_len l h.len)) (cmp_eqi _ _)) ?_ (ss_next (do_asg ev_e_int) (ss_next (do_forr (v := .str l) (σ' := σ) (src := .vals (l.map fun c => .str [c])) ?_ rfl hl) (ss_ret1 (is_loc rfl))))))))
  · exact beq_false_of_ne (by lia)
  · have := is_slFrom (d := d + 1) (ρ := [some (.str l), some (.int 10), some (.int 0), some (.int 0), none, none]) (o := .loc 0) (x := .loc 2) (σ := σ) (is_loc (v := .str l) rfl) (is_loc (v := .int 0) rfl) h.len
    rw [show cl 0 l.length = 0 from by unfold cl; simp] at this
    exact this
end Mine
end
section
namespace Mine
variable {d : Nat} {ρ : Loc} {σ : Store}

-- the reader of a line
noncomputable def rd (text : List Nat) (at_ : Nat) : MO := .inst 2 [(1, .str text), (2, .int 1), (3, .int at_)]
theorem rd_text {r : Nat} {t : List Nat} {n : Nat} (h : σ[r]? = some (rd t n)) : attrV σ (.ref r) 1 = some (.str t) := by simp [attrV, h, rd, List.lookup]
theorem rd_line {r : Nat} {t : List Nat} {n : Nat} (h : σ[r]? = some (rd t n)) : attrV σ (.ref r) 2 = some (.int 1) := by simp [attrV, h, rd, List.lookup]
theorem rd_at {r : Nat} {t : List Nat} {n : Nat} (h : σ[r]? = some (rd t n)) : attrV σ (.ref r) 3 = some (.int n) := by simp [attrV, h, rd, List.lookup]
theorem rd_set {r : Nat} {t : List Nat} {n m : Nat} (h : σ[r]? = some (rd t n)) : setattrV σ (.ref r) 3 (.int m) = some (σ.set r (rd t m)) := by simp [setattrV, h, rd, List.lookup, setF]
theorem get_set {r : Nat} {o : MO} (h : ∃ x, σ[r]? = some x) : (σ.set r o)[r]? = some o := by
  obtain ⟨x, h⟩ := h
  exact List.getElem?_set_self (List.getElem?_eq_some_iff.mp h).1
theorem set_same {r : Nat} {o : MO} (h : σ[r]? = some o) : σ.set r o = σ := by
  refine List.ext_getElem? fun i => ?_
  by_cases e : r = i
  · subst e; rw [get_set ⟨_, h⟩, h]
  · rw [List.getElem?_set_ne e]

-- where a name ends
noncomputable def endCond : E := .and [(.cmp (.loc 2) .lt (.bi .len [(.attr (.loc 0) 1)])), (.call 3 [(.sub (.attr (.loc 0) 1) (.loc 2))])]
theorem end_cond {r : Nat} {t : List Nat} {n m c : Nat} {x : Option PV} (hr : σ[r]? = some (rd t n)) (hz : t.length ≤ 65536) (hc : t[m]? = some c) : ev (d + 1) (.e endCond [some (.ref r), x, some (.int m)] σ) (.v (.bool (nameSign c)) σ) := by
  have hm : (m : Int) < t.length := by have := (List.getElem?_eq_some_iff.mp hc).1; lia
  have := ev_e_and (and_cons (d := d + 1) (ρ := [some (.ref r), x, some (.int m)]) (σ₁ := σ) (is_cmp (x := .loc 2) (y := .bi .len [(.attr (.loc 0) 1)]) (is_loc rfl) (is_bi (es_1 (is_attr (is_loc rfl) (rd_text hr))) (bi_len t hz)) (cmp_lt _ _)) (bools_one (x := .call 3 [(.sub (.attr (.loc 0) 1) (.loc 2))]) (is_call (es_1 (is_sub (is_attr (is_loc rfl) (rd_text hr)) (is_loc rfl) (sub_at hc hz))) ev_nameSign)))
  rw [decide_eq_true hm, Bool.true_and] at this
  exact this
theorem end_loop {r : Nat} {t : List Nat} {n : Nat} (hr : σ[r]? = some (rd t n)) (hz : t.length ≤ 65536) : ∀ (w rest : List Nat) (m : Nat), t.drop m = w ++ rest → (∀ c ∈ w, nameSign c = true) → (∀ c, rest[0]? = some c → nameSign c = false) → ∀ x : Option PV,
    ev (d + 1) (.whl endCond [.asg 2 (.bop .add (.loc 2) (.int 1))] [some (.ref r), x, some (.int m)] σ) (.fl .next [some (.ref r), x, some (.int ((m + w.length : Nat) : Int))] σ) := by
  intro w
  induction w with
  | nil =>
    intro rest m he _ h2 x
    refine whl_end ?_
    cases rest with
    | nil =>
      have hm : ¬ ((m : Int) < t.length) := by
        have := List.drop_eq_nil_iff.mp he
        lia
      refine ev_e_and (bools_f ?_)
      have := is_cmp (d := d + 1) (ρ := [some (.ref r), x, some (.int m)]) (x := .loc 2) (y := .bi .len [(.attr (.loc 0) 1)]) (is_loc rfl) (is_bi (es_1 (is_attr (is_loc rfl) (rd_text hr))) (bi_len t hz)) (cmp_lt _ _)
      rw [decide_eq_false hm] at this
      exact this
    | cons c rest =>
      have hc : t[m]? = some c := by
        have := congrArg (fun l => l[0]?) he
        simpa using this
      rw [← h2 c rfl]
      exact end_cond hr hz hc
  | cons c w ih =>
    intro rest m he h1 h2 x
    have hc : t[m]? = some c := by
      have := congrArg (fun l => l[0]?) he
      simpa using this
    have he' : t.drop (m + 1) = w ++ rest := by
      have := congrArg (List.drop 1) he
      simpa [List.drop_drop, Nat.add_comm] using this
    have e := end_cond (d := d) (x := x) hr hz hc
    rw [h1 c (.head _)] at e
    have g := ih rest (m + 1) he' (fun y hy => h1 y (.tail _ hy)) h2 x
    rw [Nat.succ_add_eq_add_succ] at g
    exact whl_turn e (ss_next (do_asg (is_bop (is_loc rfl) ev_e_int (bop_addi _ _))) ev_ss_nil) g
theorem ev_nameEnd {r : Nat} {t : List Nat} {n m : Nat} {w rest : List Nat} (hr : σ[r]? = some (rd t n)) (hz : t.length ≤ 65536) (he : t.drop m = w ++ rest) (h1 : ∀ c ∈ w, nameSign c = true) (h2 : ∀ c, rest[0]? = some c → nameSign c = false) :
    ev (d + 2) (.call 9 [.ref r, .int m] σ) (.v (.int ((m + w.length : Nat) : Int)) σ) :=
  do_call (fn := ⟨2, 3, b9⟩) rfl rfl (ρ' := [some (.ref r), some (.int m), some (.int ((m + w.length : Nat) : Int))])
    (ss_next (do_asg (is_loc rfl)) (ss_next (do_whl (end_loop hr hz w rest m he h1 h2 _)) (ss_ret1 (is_loc rfl))))
end Mine
end
section
namespace Mine
variable {d : Nat} {ρ : Loc} {σ : Store}

theorem cl_in {n m : Nat} (h : n ≤ m) : cl (n : Int) m = n := by
  unfold cl
  rw [if_neg (by lia)]
  simp; lia
theorem cut_word {t w rest : List Nat} {n : Nat} (he : t.drop n = w ++ rest) (hn : n ≤ t.length) : cut t (cl (n : Int) t.length) (cl ((n + w.length : Nat) : Int) t.length) = w := by
  have hl : n + w.length ≤ t.length := by
    have := congrArg List.length he
    simp at this; lia
  rw [cl_in hn, cl_in hl]
  unfold cut
  rw [List.drop_take, he]
  simp

theorem ev_passed {r : Nat} {t w rest : List Nat} {n : Nat} (hr : σ[r]? = some (rd t n)) (hz : t.length ≤ 65536) (he : t.drop n = w ++ rest) (hn : n ≤ t.length) :
    ev (d + 1) (.call 8 [.ref r, .int ((n + w.length : Nat) : Int)] σ) (.v (.str w) (σ.set r (rd t (n + w.length)))) := by
  have hr' : (σ.set r (rd t (n + w.length)))[r]? = some (rd t (n + w.length)) := get_set ⟨_, hr⟩
  refine do_call (fn := ⟨2, 3, b8⟩) rfl rfl (ρ' := [some (.ref r), some (.int ((n + w.length : Nat) : Int)), some (.int n)]) ?_
  show ev d (.ss b8 [some (.ref r), some (.int ((n + w.length : Nat) : Int)), none] σ) _
  refine ss_next (do_asg (is_attr (is_loc rfl) (rd_at hr))) ?_
  refine ss_next (do_setattr (is_loc rfl) (is_loc rfl) (rd_set hr)) ?_
  refine ss_ret1 ?_
  have := is_sl2 (d := d) (ρ := [some (.ref r), some (.int ((n + w.length : Nat) : Int)), some (.int n)]) (σ := σ.set r (rd t (n + w.length))) (o := .attr (.loc 0) 1) (x := .loc 2) (y := .loc 1) (is_attr (is_loc rfl) (rd_text hr')) (is_loc (i := 2) (v := .int n) rfl) (is_loc (i := 1) (v := .int ((n + w.length : Nat) : Int)) rfl) hz
  rw [cut_word he hn] at this
  exact this

noncomputable def placeV (col : Int) : PV := .inst 0 [(2, .int 1), (33, .int col)]
theorem ev_place {r : Nat} {t : List Nat} {n m : Nat} (hr : σ[r]? = some (rd t n)) : ev (d + 1) (.call 6 [.ref r, .int m] σ) (.v (placeV ((m : Int) + 1)) σ) := by
  refine do_call (fn := ⟨2, 2, b6⟩) rfl rfl (ρ' := [some (.ref r), some (.int m)]) ?_
  show ev d (.ss b6 [some (.ref r), some (.int m)] σ) _
  refine ss_ret1 ?_
  refine is_mk (es_c (is_attr (is_loc rfl) (rd_line hr)) (es_1 (is_bop (is_loc rfl) (ev_e_int) rfl))) ?_
  rfl

-- blanks
noncomputable def isBlank (c : Nat) : Bool := ([c] == [32]) || (([c] == [9]) || (([c] == [13]) || false))
noncomputable def blankCond : E := .and [(.cmp (.attr (.loc 0) 3) .lt (.bi .len [(.attr (.loc 0) 1)])), (.cmp (.sub (.attr (.loc 0) 1) (.attr (.loc 0) 3)) .isin (.tup [(.str [32]), (.str [9]), (.str [13])]))]
theorem blank_in {r : Nat} {t : List Nat} {n c : Nat} {x : Loc} (hr : σ[r]? = some (rd t n)) (hz : t.length ≤ 65536) (hc : t[n]? = some c) (h0 : locAt x 0 = some (.ref r)) :
    ev d (.e (.cmp (.sub (.attr (.loc 0) 1) (.attr (.loc 0) 3)) .isin (.tup [(.str [32]), (.str [9]), (.str [13])])) x σ) (.v (.bool (isBlank c)) σ) := by
  exact is_cmp (is_sub (is_attr (is_loc h0) (rd_text hr)) (is_attr (is_loc h0) (rd_at hr)) (sub_at hc hz)) (q := .tup [.str [32], .str [9], .str [13]]) (is_tup (es_c ev_e_str (es_c ev_e_str (es_1 ev_e_str))) (by decide)) rfl
theorem at_lt {r : Nat} {t : List Nat} {n : Nat} {x : Loc} (hr : σ[r]? = some (rd t n)) (hz : t.length ≤ 65536) (h0 : locAt x 0 = some (.ref r)) :
    ev d (.e (.cmp (.attr (.loc 0) 3) .lt (.bi .len [(.attr (.loc 0) 1)])) x σ) (.v (.bool (decide ((n : Int) < t.length))) σ) :=
  is_cmp (is_attr (is_loc h0) (rd_at hr)) (is_bi (es_1 (is_attr (is_loc h0) (rd_text hr))) (bi_len t hz)) rfl
theorem blank_loop {r : Nat} {t : List Nat} (hz : t.length ≤ 65536) : ∀ (w rest : List Nat) (n : Nat) (σ : Store), σ[r]? = some (rd t n) → t.drop n = w ++ rest → (∀ c ∈ w, isBlank c = true) → (∀ c, rest[0]? = some c → isBlank c = false) →
    ev d (.whl blankCond [.setattr (.loc 0) 3 (.bop .add (.attr (.loc 0) 3) (.int 1))] [some (.ref r)] σ) (.fl .next [some (.ref r)] (σ.set r (rd t (n + w.length)))) := by
  intro w
  induction w with
  | nil =>
    intro rest n σ hr he _ h2
    rw [show n + ([] : List Nat).length = n from rfl, set_same hr]
    refine whl_end ?_
    cases rest with
    | nil =>
      have hm : t.length ≤ n := List.drop_eq_nil_iff.mp he
      exact ev_e_and (bools_stop (at_lt hr hz rfl) (decide_eq_false (by lia)))
    | cons c rest =>
      have hc : t[n]? = some c := by
        have := congrArg (fun l => l[0]?) he
        simpa using this
      have := and_cons (σ₁ := σ) (at_lt (d := d) (x := [some (.ref r)]) hr hz rfl) (bools_one (blank_in (d := d) (x := [some (.ref r)]) hr hz hc rfl))
      rw [h2 c rfl, Bool.and_false] at this
      exact ev_e_and this
  | cons c w ih =>
    intro rest n σ hr he h1 h2
    have hc : t[n]? = some c := by
      have := congrArg (fun l => l[0]?) he
      simpa using this
    have hm : n < t.length := (List.getElem?_eq_some_iff.mp hc).1
    have he' : t.drop (n + 1) = w ++ rest := by
      have := congrArg (List.drop 1) he
      simpa [List.drop_drop, Nat.add_comm] using this
    have hr' : (σ.set r (rd t (n + 1)))[r]? = some (rd t (n + 1)) := get_set ⟨_, hr⟩
    have g := ih rest (n + 1) _ hr' he' (fun y hy => h1 y (.tail _ hy)) h2
    rw [List.set_set, Nat.succ_add_eq_add_succ] at g
    have e := blank_in (d := d) (x := [some (.ref r)]) hr hz hc rfl
    rw [h1 c (.head _)] at e
    exact whl_turn (ev_e_and (bools_go (at_lt hr hz rfl) (decide_eq_true (by lia)) (bools_one e))) (ss_next (do_setattr (v := .int ((n + 1 : Nat) : Int)) (is_bop (is_attr (is_loc rfl) (rd_at hr)) ev_e_int rfl) (is_loc rfl) (rd_set hr)) ev_ss_nil) g

noncomputable def restDone (rest : List Nat) : Bool := match rest with
  | [] => true
  | c :: _ => [c] == [35]
theorem ev_isDone {r : Nat} {t w rest : List Nat} {n : Nat} (hr : σ[r]? = some (rd t n)) (hz : t.length ≤ 65536) (hn : n ≤ t.length) (he : t.drop n = w ++ rest) (h1 : ∀ c ∈ w, isBlank c = true) (h2 : ∀ c, rest[0]? = some c → isBlank c = false) :
    ev (d + 1) (.call 7 [.ref r] σ) (.v (.bool (restDone rest)) (σ.set r (rd t (n + w.length)))) := by
  have hr' : (σ.set r (rd t (n + w.length)))[r]? = some (rd t (n + w.length)) := get_set ⟨_, hr⟩
  refine do_call (fn := ⟨1, 1, b7⟩) rfl rfl (ρ' := [some (.ref r)]) ?_
  show ev d (.ss b7 [some (.ref r)] σ) _
  refine ss_next (x := .whl _ _) (by refine do_whl ?_; exact blank_loop hz w rest n σ hr he h1 h2) ?_
  refine ss_ret1 ?_
  have he' : t.drop (n + w.length) = rest := by
    have := congrArg (List.drop w.length) he
    simpa [List.drop_drop, Nat.add_comm] using this
  refine ev_e_or ?_
  have c1 : ev d (.e (.cmp (.attr (.loc 0) 3) .ge (.bi .len [(.attr (.loc 0) 1)])) [some (.ref r)] (σ.set r (rd t (n + w.length)))) (.v (.bool (decide ((t.length : Int) ≤ ((n + w.length : Nat) : Int)))) (σ.set r (rd t (n + w.length)))) :=
    is_cmp (is_attr (is_loc rfl) (rd_at hr')) (is_bi (es_1 (is_attr (is_loc rfl) (rd_text hr'))) (bi_len t hz)) rfl
  cases rest with
  | nil =>
    have hm : t.length ≤ n + w.length := List.drop_eq_nil_iff.mp he'
    exact bools_stop c1 (decide_eq_true (by lia))
  | cons c rest =>
    have hc : t[n + w.length]? = some c := by
      have := congrArg (fun l => l[0]?) he'
      simpa using this
    have hm : n + w.length < t.length := (List.getElem?_eq_some_iff.mp hc).1
    have c2 : ev d (.e (.cmp (.sub (.attr (.loc 0) 1) (.attr (.loc 0) 3)) .eq (.str [35])) [some (.ref r)] (σ.set r (rd t (n + w.length)))) (.v (.bool ([c] == [35])) (σ.set r (rd t (n + w.length)))) :=
      is_cmp (is_sub (is_attr (is_loc rfl) (rd_text hr')) (is_attr (is_loc rfl) (rd_at hr')) (sub_at hc hz)) ev_e_str rfl
    exact bools_go c1 (decide_eq_false (by lia)) (bools_one c2)
end Mine
end
section
namespace Mine
variable {d : Nat} {ρ : Loc} {σ : Store}

noncomputable def tokV (kind text : List Nat) (worth : PV) (col : Int) : PV := .inst 1 [(0, .str kind), (1, .str text), (21, worth), (3, placeV col)]
noncomputable def kSign : List Nat := [115, 105, 103, 110]
noncomputable def kName : List Nat := [110, 97, 109, 101]
noncomputable def kNumber : List Nat := [110, 117, 109, 98, 101, 114]
noncomputable def kEnd : List Nat := [101, 110, 100]
noncomputable def signs : List Nat := [43, 45, 42, 47, 37, 38, 124, 94, 126, 33, 40, 41, 91, 93, 44, 58, 36, 61, 60, 62]
noncomputable def two (l : List Nat) : Bool := (l == [60, 60]) || (l == [62, 62])

theorem cut_two {t : List Nat} {n : Nat} (hn : n ≤ t.length) : cut t (cl (n : Int) t.length) (cl ((n : Int) + 2) t.length) = (t.drop n).take 2 := by
  rw [cl_in hn]
  have : cl ((n : Int) + 2) t.length = min (n + 2) t.length := by
    unfold cl
    rw [if_neg (by lia)]
    congr 1
  rw [this]
  unfold cut
  rw [List.drop_take]
  rcases Nat.le_total (n + 2) t.length with q | q
  · rw [Nat.min_eq_left q]; congr 1; lia
  · rw [Nat.min_eq_right q, List.take_of_length_le (by simp), List.take_of_length_le (by simp; lia)]

theorem mk_tok (k w : List Nat) (v : PV) (col : Int) : mkV 1 [.str k, .str w, v, placeV col] σ = some (.v (tokV k w v col) σ) := rfl

theorem ev_mark {r : Nat} {t w rest : List Nat} {n c : Nat} (hr : σ[r]? = some (rd t n)) (hz : t.length ≤ 65536) (he : t.drop n = w ++ rest) (hc : t[n]? = some c) (hs : signs.contains c = true) (hw : w.length = if two ((t.drop n).take 2) then 2 else 1) :
    ev (d + 2) (.call 11 [.ref r] σ) (.v (tokV kSign w (.str w) ((n : Int) + 1)) (σ.set r (rd t (n + w.length)))) := by
  have hn : n ≤ t.length := Nat.le_of_lt (List.getElem?_eq_some_iff.mp hc).1
  have hn' : n < t.length := (List.getElem?_eq_some_iff.mp hc).1
  refine do_call (fn := ⟨1, 4, b11⟩) rfl rfl (ρ' := [some (.ref r), some (placeV ((n : Int) + 1)), some (.str ((t.drop n).take 2)), some (.str w)]) ?_
  show ev (d + 1) (.ss b11 [some (.ref r), none, none, none] σ) _
  have e1 : ∀ x y z, ev (d + 1) (.e (.attr (.loc 0) 3) [some (.ref r), x, y, z] σ) (.v (.int n) σ) := fun x y z => is_attr (is_loc rfl) (rd_at hr)
  have e2 : ∀ x y z, ev (d + 1) (.e (.attr (.loc 0) 1) [some (.ref r), x, y, z] σ) (.v (.str t) σ) := fun x y z => is_attr (is_loc rfl) (rd_text hr)
  have m1 : ∀ m, methK σ (.ref r) m = (methTab 2 m).map .call := fun m => by simp [methK, hr, rd]
  have p1 : ∀ x y z, ev (d + 1) (.e (.meth (.loc 0) 4 [(.attr (.loc 0) 3)]) [some (.ref r), x, y, z] σ) (.v (placeV ((n : Int) + 1)) σ) := fun x y z => by
    refine is_meth (is_loc rfl) (by rw [m1]; rfl) (es_1 (e1 x y z)) ?_
    exact ev_place hr
  refine ss_next (do_asg (p1 _ _ _)) ?_
  have q1 : ev (d + 1) (.e (.cmp (.sub (.attr (.loc 0) 1) (.attr (.loc 0) 3)) .notin (.glob 0)) [some (.ref r), some (placeV ((n : Int) + 1)), none, none] σ) (.v (.bool (!signs.contains c)) σ) :=
    is_cmp (is_sub (e2 _ _ _) (e1 _ _ _) (sub_at hc hz)) (is_glob rfl) rfl
  refine ss_neg q1 (by rw [hs]; rfl) ?_
  have s1 : ev (d + 1) (.e (.sl2 (.attr (.loc 0) 1) (.attr (.loc 0) 3) (.bop .add (.attr (.loc 0) 3) (.int 2))) [some (.ref r), some (placeV ((n : Int) + 1)), none, none] σ) (.v (.str ((t.drop n).take 2)) σ) := by
    rw [← cut_two hn]
    exact is_sl2 (e2 _ _ _) (e1 _ _ _) (is_bop (e1 _ _ _) ev_e_int rfl) hz
  refine ss_next (do_asg s1) ?_
  generalize hL : (t.drop n).take 2 = L at *
  have w1 : ev (d + 1) (.e (.ite (.or [(.cmp (.loc 2) .eq (.str [60, 60])), (.cmp (.loc 2) .eq (.str [62, 62]))]) (.bop .add (.attr (.loc 0) 3) (.int 2)) (.bop .add (.attr (.loc 0) 3) (.int 1))) [some (.ref r), some (placeV ((n : Int) + 1)), some (.str L), none] σ) (.v (.int ((n + w.length : Nat) : Int)) σ) := by
    refine is_ite (b := two L) (σ' := σ) ?_ ?_
    · refine ev_e_or ?_
      exact or_cons (σ₁ := σ) (is_cmp (is_loc rfl) ev_e_str rfl) (bools_one (is_cmp (is_loc rfl) ev_e_str rfl))
    · cases h2 : two L
      · rw [h2] at hw
        rw [hw]
        exact is_bop (e1 _ _ _) ev_e_int rfl
      · rw [h2] at hw
        rw [hw]
        exact is_bop (e1 _ _ _) ev_e_int rfl
  have p2 : ev (d + 1) (.e (.meth (.loc 0) 6 [(.ite (.or [(.cmp (.loc 2) .eq (.str [60, 60])), (.cmp (.loc 2) .eq (.str [62, 62]))]) (.bop .add (.attr (.loc 0) 3) (.int 2)) (.bop .add (.attr (.loc 0) 3) (.int 1)))]) [some (.ref r), some (placeV ((n : Int) + 1)), some (.str L), none] σ) (.v (.str w) (σ.set r (rd t (n + w.length)))) := by
    refine is_meth (is_loc rfl) (by rw [m1]; rfl) (es_1 w1) ?_
    exact ev_passed hr hz he hn
  refine ss_next (do_asg p2) ?_
  refine ss_ret1 ?_
  refine is_mk (es_c ev_e_str (es_c (is_loc rfl) (es_c (is_loc rfl) (es_1 (is_loc rfl))))) ?_
  exact mk_tok ..
end Mine
end
section
namespace Mine
variable {d : Nat} {ρ : Loc} {σ : Store}

theorem rd_meth {r : Nat} {t : List Nat} {n : Nat} (hr : σ[r]? = some (rd t n)) (m : Nat) : methK σ (.ref r) m = (methTab 2 m).map .call := by simp [methK, hr, rd]
theorem digit_name {c : Nat} (h : isDigit c) : nameSign c = true := by
  unfold nameSign isDigit at *
  have h1 : decide ((48 : Int) ≤ c) = true := by simp; lia
  have h2 : decide ((c : Int) ≤ 57) = true := by simp; lia
  rw [h1, h2]; rfl

theorem ev_numTok {r : Nat} {t w rest : List Nat} {n : Nat} (hr : σ[r]? = some (rd t n)) (hz : t.length ≤ 65536) (he : t.drop n = w ++ rest) (hn : n ≤ t.length) (hw : Numeral w) (h2 : ∀ c, rest[0]? = some c → nameSign c = false) (hv : worthFrom 0 w ≤ 18446744073709551615) (hv0 : 0 ≤ worthFrom 0 w) :
    ev (d + 3) (.call 10 [.ref r] σ) (.v (tokV kNumber w (.int (worthFrom 0 w)) ((n : Int) + 1)) (σ.set r (rd t (n + w.length)))) := by
  refine do_call (fn := ⟨1, 4, b10⟩) rfl rfl (ρ' := [some (.ref r), some (placeV ((n : Int) + 1)), some (.str w), some (.int (worthFrom 0 w))]) ?_
  show ev (d + 2) (.ss b10 [some (.ref r), none, none, none] σ) _
  have e1 : ∀ x y z, ev (d + 2) (.e (.attr (.loc 0) 3) [some (.ref r), x, y, z] σ) (.v (.int n) σ) := fun x y z => is_attr (is_loc rfl) (rd_at hr)
  have p1 : ev (d + 2) (.e (.meth (.loc 0) 4 [(.attr (.loc 0) 3)]) [some (.ref r), none, none, none] σ) (.v (placeV ((n : Int) + 1)) σ) := by
    refine is_meth (is_loc rfl) (by rw [rd_meth hr]; rfl) (es_1 (e1 _ _ _)) ?_
    exact ev_place hr
  refine ss_next (do_asg p1) ?_
  have n1 : ev (d + 2) (.e (.meth (.loc 0) 5 [(.attr (.loc 0) 3)]) [some (.ref r), some (placeV ((n : Int) + 1)), none, none] σ) (.v (.int ((n + w.length : Nat) : Int)) σ) := by
    refine is_meth (is_loc rfl) (by rw [rd_meth hr]; rfl) (es_1 (e1 _ _ _)) ?_
    exact ev_nameEnd hr hz he (fun c hc => digit_name (hw.dig c hc)) h2
  have p2 : ev (d + 2) (.e (.meth (.loc 0) 6 [(.meth (.loc 0) 5 [(.attr (.loc 0) 3)])]) [some (.ref r), some (placeV ((n : Int) + 1)), none, none] σ) (.v (.str w) (σ.set r (rd t (n + w.length)))) := by
    refine is_meth (is_loc rfl) (by rw [rd_meth hr]; rfl) (es_1 n1) ?_
    exact ev_passed hr hz he hn
  refine ss_next (do_asg p2) ?_
  generalize σ.set r (rd t (n + w.length)) = τ
  refine ss_next (x := .asg 3 _) (σ' := τ) (ρ' := [some (.ref r), some (placeV ((n : Int) + 1)), some (.str w), some (.int (worthFrom 0 w))]) ?_ ?_; rotate_left
  · generalize worthFrom 0 w = v at *
    refine ss_neg (is_cmp (is_loc rfl) (is_glob rfl) rfl) (by simp; exact hv) ?_
    refine ss_take (b := decide (0 ≤ v)) (is_cmp (is_loc rfl) ev_e_int rfl) ?_
    rw [if_pos (by simpa using hv0)]
    refine ss_ret1 ?_
    refine is_mk (es_c ev_e_str (es_c (is_loc rfl) (es_c (is_loc rfl) (es_1 (is_loc rfl))))) ?_
    exact mk_tok ..
  · refine do_asg ?_
    refine is_call (es_1 (is_loc (v := .str w) rfl)) ?_
    exact ev_worth hw

theorem tok_begin {r : Nat} {t : List Nat} {n c : Nat} (hr : σ[r]? = some (rd t n)) (hz : t.length ≤ 65536) (hc : t[n]? = some c) :
    ev d (.e (.sub (.attr (.loc 0) 1) (.attr (.loc 0) 3)) [some (.ref r), none, none, none] σ) (.v (.str [c]) σ) :=
  is_sub (is_attr (is_loc rfl) (rd_text hr)) (is_attr (is_loc rfl) (rd_at hr)) (sub_at hc hz)
theorem ev_tokName {r : Nat} {t w rest : List Nat} {n c : Nat} (hr : σ[r]? = some (rd t n)) (hz : t.length ≤ 65536) (he : t.drop n = w ++ rest) (hc : t[n]? = some c) (hb : beginsName c = true) (hw : ∀ c ∈ w, nameSign c = true) (h2 : ∀ c, rest[0]? = some c → nameSign c = false) :
    ev (d + 3) (.call 12 [.ref r] σ) (.v (tokV kName w (.str w) ((n : Int) + 1)) (σ.set r (rd t (n + w.length)))) := by
  have hn : n ≤ t.length := Nat.le_of_lt (List.getElem?_eq_some_iff.mp hc).1
  refine do_call (fn := ⟨1, 4, b12⟩) rfl rfl (ρ' := [some (.ref r), some (.str [c]), some (placeV ((n : Int) + 1)), some (.str w)]) ?_
  show ev (d + 2) (.ss b12 [some (.ref r), none, none, none] σ) _
  refine ss_next (do_asg (tok_begin hr hz hc)) ?_
  refine ss_take (b := true) (σ' := σ) ?_ ?_
  · refine is_call (es_1 (is_loc (v := .str [c]) rfl)) ?_; rw [← hb]; exact ev_begins
  · have e1 : ∀ x y z, ev (d + 2) (.e (.attr (.loc 0) 3) [some (.ref r), x, y, z] σ) (.v (.int n) σ) := fun x y z => is_attr (is_loc rfl) (rd_at hr)
    have p1 : ev (d + 2) (.e (.meth (.loc 0) 4 [(.attr (.loc 0) 3)]) [some (.ref r), some (.str [c]), none, none] σ) (.v (placeV ((n : Int) + 1)) σ) := by
      refine is_meth (is_loc rfl) (by rw [rd_meth hr]; rfl) (es_1 (e1 _ _ _)) ?_
      exact ev_place hr
    refine ss_next (do_asg p1) ?_
    have n1 : ev (d + 2) (.e (.meth (.loc 0) 5 [(.attr (.loc 0) 3)]) [some (.ref r), some (.str [c]), some (placeV ((n : Int) + 1)), none] σ) (.v (.int ((n + w.length : Nat) : Int)) σ) := by
      refine is_meth (is_loc rfl) (by rw [rd_meth hr]; rfl) (es_1 (e1 _ _ _)) ?_
      exact ev_nameEnd hr hz he hw h2
    have p2 : ev (d + 2) (.e (.meth (.loc 0) 6 [(.meth (.loc 0) 5 [(.attr (.loc 0) 3)])]) [some (.ref r), some (.str [c]), some (placeV ((n : Int) + 1)), none] σ) (.v (.str w) (σ.set r (rd t (n + w.length)))) := by
      refine is_meth (is_loc rfl) (by rw [rd_meth hr]; rfl) (es_1 n1) ?_
      exact ev_passed hr hz he hn
    refine ss_next (do_asg p2) ?_
    refine ss_ret1 ?_
    refine is_mk (es_c ev_e_str (es_c (is_loc rfl) (es_c (is_loc rfl) (es_1 (is_loc rfl))))) ?_
    exact mk_tok ..
end Mine
end
section
namespace Mine
variable {d : Nat} {ρ : Loc} {σ : Store}

theorem digit_begins {c : Nat} (h : isDigit c) : beginsName c = false := by
  unfold beginsName isLetter isDigit at *
  have h1 : decide ((97 : Int) ≤ c) = false := by simp; lia
  have h2 : decide ((65 : Int) ≤ c) = false := by simp; lia
  have h3 : ([c] == [95]) = false := by rw [beq_eq_false_iff_ne]; intro q; injection q with q; lia
  have h4 : ([c] == [46]) = false := by rw [beq_eq_false_iff_ne]; intro q; injection q with q; lia
  rw [h1, h2, h3, h4]; rfl
theorem ev_tokNum {r : Nat} {t w rest : List Nat} {n c : Nat} (hr : σ[r]? = some (rd t n)) (hz : t.length ≤ 65536) (he : t.drop n = w ++ rest) (hc : t[n]? = some c) (hd : isDigit c) (hw : Numeral w) (h2 : ∀ c, rest[0]? = some c → nameSign c = false) (hv : worthFrom 0 w ≤ 18446744073709551615) (hv0 : 0 ≤ worthFrom 0 w) :
    ev (d + 4) (.call 12 [.ref r] σ) (.v (tokV kNumber w (.int (worthFrom 0 w)) ((n : Int) + 1)) (σ.set r (rd t (n + w.length)))) := by
  have hn : n ≤ t.length := Nat.le_of_lt (List.getElem?_eq_some_iff.mp hc).1
  refine do_call (fn := ⟨1, 4, b12⟩) rfl rfl (ρ' := [some (.ref r), some (.str [c]), none, none]) ?_
  show ev (d + 3) (.ss b12 [some (.ref r), none, none, none] σ) _
  refine ss_next (do_asg (tok_begin hr hz hc)) ?_
  refine ss_neg (is_call (es_1 (is_loc (v := .str [c]) rfl)) ev_begins) (digit_begins hd) ?_
  have h10 : decide (digitV c < 10) = true := by rw [digitV_of hd]; unfold isDigit at hd; simp; lia
  refine ss_take (b := true) (σ' := σ) ?_ (ss_ret1 (is_meth (is_loc rfl) (by rw [rd_meth hr]; rfl) ev_es_nil (ev_numTok hr hz he hn hw h2 hv hv0)))
  rw [← h10]
  exact is_cmp (p := .int (digitV c)) (is_call (es_1 (is_loc (v := .str [c]) rfl)) ev_digit) ev_e_int rfl

/-- a sign that begins a mark: no name, no figure, no quote; a '%' is no register -/
structure Markish (t : List Nat) (n c : Nat) : Prop where
  nb : beginsName c = false
  nd : ¬ digitV c < 10
  q1 : c ≠ 39
  q2 : c ≠ 34
  pc : c = 37 → ∀ e, t[n + 1]? = some e → isLetter e = false
theorem ev_tokMark {r : Nat} {t w rest : List Nat} {n c : Nat} (hr : σ[r]? = some (rd t n)) (hz : t.length ≤ 65536) (he : t.drop n = w ++ rest) (hc : t[n]? = some c) (hm : Markish t n c) (hs : signs.contains c = true) (hw : w.length = if two ((t.drop n).take 2) then 2 else 1) :
    ev (d + 4) (.call 12 [.ref r] σ) (.v (tokV kSign w (.str w) ((n : Int) + 1)) (σ.set r (rd t (n + w.length)))) := by
  have hn : n < t.length := (List.getElem?_eq_some_iff.mp hc).1
  refine do_call (fn := ⟨1, 4, b12⟩) rfl rfl (ρ' := [some (.ref r), some (.str [c]), none, none]) ?_
  show ev (d + 3) (.ss b12 [some (.ref r), none, none, none] σ) _
  refine ss_next (do_asg (tok_begin hr hz hc)) ?_
  have one : ∀ k : Nat, c ≠ k → ([c] == [k]) = false := fun k h => by rw [beq_eq_false_iff_ne]; intro q; injection q with q; exact h q
  refine ss_neg (is_call (es_1 (is_loc (v := .str [c]) rfl)) ev_begins) hm.nb ?_
  refine ss_neg (is_cmp (p := .int (digitV c)) (is_call (es_1 (is_loc (v := .str [c]) rfl)) ev_digit) ev_e_int rfl) (decide_eq_false hm.nd) ?_
  refine ss_neg (is_cmp (is_loc rfl) ev_e_str rfl) (one 39 hm.q1) ?_
  refine ss_neg (is_cmp (is_loc rfl) ev_e_str rfl) (one 34 hm.q2) ?_
  refine ss_neg (b := false) (σ' := σ) (ev_e_and ?_) rfl (ss_ret1 (is_meth (is_loc rfl) (by rw [rd_meth hr]; rfl) ev_es_nil (ev_mark hr hz he hc hs hw)))
  have e1 : ev (d + 3) (.e (.attr (.loc 0) 3) [some (.ref r), some (.str [c]), none, none] σ) (.v (.int n) σ) := is_attr (is_loc rfl) (rd_at hr)
  have e2 : ev (d + 3) (.e (.attr (.loc 0) 1) [some (.ref r), some (.str [c]), none, none] σ) (.v (.str t) σ) := is_attr (is_loc rfl) (rd_text hr)
  have e3 : ev (d + 3) (.e (.bop .add (.attr (.loc 0) 3) (.int 1)) [some (.ref r), some (.str [c]), none, none] σ) (.v (.int ((n + 1 : Nat) : Int)) σ) := is_bop e1 ev_e_int rfl
  have c1 : ev (d + 3) (.e (.cmp (.loc 1) .eq (.str [37])) [some (.ref r), some (.str [c]), none, none] σ) (.v (.bool ([c] == [37])) σ) := is_cmp (is_loc rfl) ev_e_str rfl
  by_cases hp : c = 37
  · have c2 : ev (d + 3) (.e (.cmp (.bop .add (.attr (.loc 0) 3) (.int 1)) .lt (.bi .len [(.attr (.loc 0) 1)])) [some (.ref r), some (.str [c]), none, none] σ) (.v (.bool (decide (((n + 1 : Nat) : Int) < t.length))) σ) :=
      is_cmp e3 (is_bi (es_1 e2) (bi_len t hz)) rfl
    cases q : t[n + 1]? with
    | none =>
      have : t.length ≤ n + 1 := List.getElem?_eq_none_iff.mp q
      exact bools_go c1 (by rw [hp]; rfl) (bools_stop c2 (decide_eq_false (by lia)))
    | some e =>
      have c3 : ev (d + 3) (.e (.call 1 [(.sub (.attr (.loc 0) 1) (.bop .add (.attr (.loc 0) 3) (.int 1)))]) [some (.ref r), some (.str [c]), none, none] σ) (.v (.bool (isLetter e)) σ) := is_call (es_1 (is_sub e2 e3 (sub_at q hz))) ev_letter
      have := and_cons (σ₁ := σ) c1 (and_cons (σ₁ := σ) c2 (bools_one c3))
      rw [hm.pc hp e q, Bool.and_false, Bool.and_false] at this
      exact this
  · exact bools_stop c1 (one 37 hp)
end Mine
end
section
namespace Mine
variable {d : Nat} {ρ : Loc} {σ : Store}

inductive Lx where
  | name (w : List Nat) | num (w : List Nat) | mark (w : List Nat)
noncomputable def Lx.word : Lx → List Nat
  | .name w => w
  | .num w => w
  | .mark w => w
noncomputable def Lx.tok (col : Int) : Lx → PV
  | .name w => tokV kName w (.str w) col
  | .num w => tokV kNumber w (.int (worthFrom 0 w)) col
  | .mark w => tokV kSign w (.str w) col
/-- a lexeme as it may stand ahead of the rest -/
noncomputable def LxOk (rest : List Nat) : Lx → Prop
  | .name w => (∃ c w', w = c :: w' ∧ beginsName c = true) ∧ (∀ c ∈ w, nameSign c = true) ∧ ∀ c, rest[0]? = some c → nameSign c = false
  | .num w => Numeral w ∧ 0 ≤ worthFrom 0 w ∧ worthFrom 0 w ≤ 18446744073709551615 ∧ ∀ c, rest[0]? = some c → nameSign c = false
  | .mark w => (∃ c w', w = c :: w' ∧ beginsName c = false ∧ ¬ digitV c < 10 ∧ c ≠ 39 ∧ c ≠ 34 ∧ signs.contains c = true ∧ (c = 37 → ∀ e, (w ++ rest)[1]? = some e → isLetter e = false)) ∧ w.length = if two ((w ++ rest).take 2) then 2 else 1
noncomputable abbrev Item := List Nat × Lx
noncomputable def flatI : List Item → List Nat
  | [] => []
  | (b, x) :: r => b ++ x.word ++ flatI r
noncomputable def ItsOk (tl : List Nat) : List Item → Prop
  | [] => True
  | (b, x) :: r => (∀ c ∈ b, isBlank c = true) ∧ LxOk (flatI r ++ tl) x ∧ ItsOk tl r
/-- the tokens of the lexemes, wherever they stand -/
inductive ToksOf : List Lx → List PV → Prop
  | nil : ToksOf [] []
  | cons {x l col r} : ToksOf l r → ToksOf (x :: l) (x.tok col :: r)

theorem drop_app {t a b : List Nat} {n : Nat} (he : t.drop n = a ++ b) : t.drop (n + a.length) = b := by
  have := congrArg (List.drop a.length) he
  simpa [List.drop_drop, Nat.add_comm] using this
theorem head_of {t a : List Nat} {n c : Nat} {b : List Nat} (he : t.drop n = (c :: a) ++ b) : t[n]? = some c := by
  have := congrArg (fun l => l[0]?) he
  simpa using this
theorem ev_token {r : Nat} {t rest : List Nat} {n : Nat} {x : Lx} (hr : σ[r]? = some (rd t n)) (hz : t.length ≤ 65536) (he : t.drop n = x.word ++ rest) (ok : LxOk rest x) :
    ev (d + 4) (.call 12 [.ref r] σ) (.v (x.tok ((n : Int) + 1)) (σ.set r (rd t (n + x.word.length)))) := by
  cases x with
  | name w =>
    obtain ⟨⟨c, w', rfl, hb⟩, h1, h2⟩ := ok
    exact ev_tokName (d := d + 1) hr hz he (head_of he) hb h1 h2
  | num w =>
    obtain ⟨hw, h0, h1, h2⟩ := ok
    obtain ⟨c, w', rfl⟩ : ∃ c w', w = c :: w' := by
      cases w with
      | nil => exact absurd rfl hw.ne
      | cons c w' => exact ⟨c, w', rfl⟩
    exact ev_tokNum hr hz he (head_of he) (hw.dig c (.head _)) hw h2 h1 h0
  | mark w =>
    obtain ⟨⟨c, w', rfl, h1, h2, h3, h4, h5, h6⟩, h7⟩ := ok
    have he' : t.drop n = (c :: w') ++ rest := he
    refine ev_tokMark hr hz he (head_of he') ⟨h1, h2, h3, h4, fun hc e hq => h6 hc e ?_⟩ h5 (by rw [he']; exact h7)
    have := congrArg (fun l => l[1]?) he'
    rw [← this]
    simpa using hq
theorem word_ne {rest : List Nat} {x : Lx} (ok : LxOk rest x) : ∃ c w, x.word = c :: w ∧ isBlank c = false ∧ c ≠ 35 := by
  have nb : ∀ c, nameSign c = true → isBlank c = false ∧ c ≠ 35 := fun c h => by
    have h' : ∀ k : Nat, nameSign k = false → c ≠ k := fun k hk e => by rw [e, hk] at h; cases h
    have b : ∀ k : Nat, nameSign k = false → ([c] == [k]) = false := fun k hk => by rw [beq_eq_false_iff_ne]; intro q; injection q with q; exact h' k hk q
    refine ⟨?_, h' 35 (by decide)⟩
    unfold isBlank
    rw [b 32 (by decide), b 9 (by decide), b 13 (by decide)]; rfl
  cases x with
  | name w =>
    obtain ⟨⟨c, w', rfl, hb⟩, h1, h2⟩ := ok
    exact ⟨c, w', rfl, nb c (h1 c (.head _))⟩
  | num w =>
    obtain ⟨hw, h0, h1, h2⟩ := ok
    cases w with
    | nil => exact absurd rfl hw.ne
    | cons c w' => exact ⟨c, w', rfl, nb c (digit_name (hw.dig c (.head _)))⟩
  | mark w =>
    obtain ⟨⟨c, w', rfl, h1, h2, h3, h4, h5, h6⟩, h7⟩ := ok
    refine ⟨c, w', rfl, ?_, fun e => by rw [e] at h5; exact absurd h5 (by decide)⟩
    have b : ∀ k : Nat, signs.contains k = false → ([c] == [k]) = false := fun k hk => by rw [beq_eq_false_iff_ne]; intro q; injection q with q; rw [q, hk] at h5; cases h5
    unfold isBlank
    rw [b 32 (by decide), b 9 (by decide), b 13 (by decide)]; rfl
end Mine
end
section
namespace Mine
variable {d : Nat} {ρ : Loc} {σ : Store}

theorem flatI_head {tl : List Nat} {b : List Nat} {x : Lx} {r : List Item} (ok : ItsOk tl ((b, x) :: r)) : ∀ c, (x.word ++ (flatI r ++ tl))[0]? = some c → isBlank c = false ∧ c ≠ 35 := by
  intro c h
  obtain ⟨c', w, e, h1, h2⟩ := word_ne ok.2.1
  rw [e] at h
  cases h
  exact ⟨h1, h2⟩

noncomputable def tokBody : List S := [.expr (.meth (.loc 3) 14 [(.meth (.loc 2) 13 [])])]
theorem tok_loop {r f : Nat} {t tb tl : List Nat} (hz : t.length ≤ 65536) (hb : ∀ c ∈ tb, isBlank c = true) (h2 : ∀ c, tl[0]? = some c → isBlank c = false) (hd : restDone tl = true) (hrf : r ≠ f) (a b : Option PV) :
    ∀ (its : List Item) (n : Nat) (acc : List PV) (σ : Store), σ[r]? = some (rd t n) → σ[f]? = some (.lst acc) → acc.length + its.length ≤ 65536 → n ≤ t.length → t.drop n = flatI its ++ (tb ++ tl) → ItsOk (tb ++ tl) its →
    ∃ toks, ToksOf (its.map (·.2)) toks ∧ ev (d + 5) (.whl (.not (.meth (.loc 2) 12 [])) tokBody [a, b, some (.ref r), some (.ref f)] σ)
      (.fl .next [a, b, some (.ref r), some (.ref f)] ((σ.set r (rd t (n + (flatI its).length + tb.length))).set f (.lst (acc ++ toks)))) := by
  intro its
  induction its with
  | nil =>
    intro n acc σ hr hf hl hn he ok
    refine ⟨[], .nil, ?_⟩
    have hdone := ev_isDone (d := d + 4) hr hz hn (w := tb) (rest := tl) he hb h2
    rw [hd] at hdone
    have hf' : (σ.set r (rd t (n + tb.length)))[f]? = some (.lst acc) := by rw [List.getElem?_set_ne hrf]; exact hf
    rw [List.append_nil, show n + (flatI []).length + tb.length = n + tb.length from rfl]
    rw [show (σ.set r (rd t (n + tb.length))).set f (.lst acc) = σ.set r (rd t (n + tb.length)) from set_same hf']
    refine whl_end ?_
    refine is_not (b := true) ?_
    refine is_meth (is_loc rfl) (by rw [rd_meth hr]; rfl) ev_es_nil ?_
    exact hdone
  | cons i its ih =>
    intro n acc σ hr hf hl hn he ok
    obtain ⟨bl, x⟩ := i
    have hh := flatI_head ok
    obtain ⟨o1, o2, o3⟩ := ok
    have he1 : t.drop n = bl ++ (x.word ++ (flatI its ++ (tb ++ tl))) := by rw [he]; simp [flatI]
    have hdone := ev_isDone (d := d + 4) hr hz hn he1 o1 (fun c h => (hh c h).1)
    have hnd : restDone (x.word ++ (flatI its ++ (tb ++ tl))) = false := by
      cases q : x.word ++ (flatI its ++ (tb ++ tl)) with
      | nil =>
        obtain ⟨c, w, e, _⟩ := word_ne o2
        rw [e] at q; cases q
      | cons c w =>
        have := (hh c (by rw [q]; rfl)).2
        show ([c] == [35]) = false
        rw [beq_eq_false_iff_ne]; intro z; injection z with z; exact this z
    rw [hnd] at hdone
    have he2 := drop_app he1
    have hn2 : n + bl.length ≤ t.length := by
      have := congrArg List.length he1
      simp at this; lia
    have hr1 : (σ.set r (rd t (n + bl.length)))[r]? = some (rd t (n + bl.length)) := get_set ⟨_, hr⟩
    have hf1 : (σ.set r (rd t (n + bl.length)))[f]? = some (.lst acc) := by rw [List.getElem?_set_ne hrf]; exact hf
    have htok := ev_token (d := d + 1) hr1 hz he2 o2
    rw [List.set_set] at htok
    have hr2 : (σ.set r (rd t (n + bl.length + x.word.length)))[r]? = some (rd t (n + bl.length + x.word.length)) := get_set ⟨_, hr⟩
    have hf2 : (σ.set r (rd t (n + bl.length + x.word.length)))[f]? = some (.lst acc) := by rw [List.getElem?_set_ne hrf]; exact hf
    have he3 := drop_app he2
    have hn3 : n + bl.length + x.word.length ≤ t.length := by
      have := congrArg List.length he2
      simp at this; lia
    have hr3 : ((σ.set r (rd t (n + bl.length + x.word.length))).set f (.lst (acc ++ [x.tok (((n + bl.length : Nat) : Int) + 1)])))[r]? = some (rd t (n + bl.length + x.word.length)) := by
      rw [List.getElem?_set_ne (Ne.symm hrf)]; exact hr2
    have hf3 : ((σ.set r (rd t (n + bl.length + x.word.length))).set f (.lst (acc ++ [x.tok (((n + bl.length : Nat) : Int) + 1)])))[f]? = some (.lst (acc ++ [x.tok (((n + bl.length : Nat) : Int) + 1)])) := get_set ⟨_, hf2⟩
    obtain ⟨toks, h3, h4⟩ := ih _ _ _ hr3 hf3 (by simp at hl ⊢; lia) hn3 he3 o3
    refine ⟨x.tok (((n + bl.length : Nat) : Int) + 1) :: toks, .cons h3, ?_⟩
    refine whl_turn (σ' := σ.set r (rd t (n + bl.length))) (σ'' := (σ.set r (rd t (n + bl.length + x.word.length))).set f (.lst (acc ++ [x.tok (((n + bl.length : Nat) : Int) + 1)]))) (ρ' := [a, b, some (.ref r), some (.ref f)]) ?_ ?_ ?_; rotate_left 2
    · refine ev_to h4 ?_
      congr 1
      rw [List.set_comm _ _ (Ne.symm hrf), List.set_set, List.set_set, List.set_comm _ _ hrf]
      rw [List.append_assoc, List.singleton_append]
      rw [show (flatI ((bl, x) :: its)).length = bl.length + x.word.length + (flatI its).length from by simp [flatI]; lia]
      rw [show n + bl.length + x.word.length + (flatI its).length + tb.length = n + (bl.length + x.word.length + (flatI its).length) + tb.length from by lia]
      rw [List.set_comm _ _ hrf]
    · refine is_not (b := false) ?_
      refine is_meth (is_loc rfl) (by rw [rd_meth hr]; rfl) ev_es_nil ?_
      exact hdone
    · unfold tokBody
      refine ss_next (do_expr (is_app (i := f) (p := .ref f) (ps := [x.tok (((n + bl.length : Nat) : Int) + 1)]) (σ' := σ.set r (rd t (n + bl.length))) (σ'' := σ.set r (rd t (n + bl.length + x.word.length))) (σ₃ := (σ.set r (rd t (n + bl.length + x.word.length))).set f (.lst (acc ++ [x.tok (((n + bl.length : Nat) : Int) + 1)]))) (is_loc rfl) (by simp [methK, hf1]) (es_1 ?_) ?_)) ?_; rotate_left 2
      · exact ev_ss_nil
      · refine is_meth (is_loc rfl) (by rw [rd_meth hr1]; rfl) ev_es_nil ?_
        exact htok
      · have : acc.length ≤ 65536 := by simp at hl; lia
        simp only [lstOp, hf2]
        rw [if_pos this]
end Mine
end
section
namespace Mine
variable {d : Nat} {ρ : Loc} {σ : Store}

theorem app_get0 (x y : MO) : (σ ++ [x, y])[σ.length]? = some x := by simp
theorem app_get1 (x y : MO) : (σ ++ [x, y])[σ.length + 1]? = some y := by
  rw [List.getElem?_append_right (by lia), show σ.length + 1 - σ.length = 1 from by lia]; rfl
theorem app_set0 (x y z : MO) : (σ ++ [x, y]).set σ.length z = σ ++ [z, y] := by
  rw [List.set_append_right _ _ (Nat.le_refl _), Nat.sub_self]; rfl
theorem app_set1 (x y z : MO) : (σ ++ [x, y]).set (σ.length + 1) z = σ ++ [x, z] := by
  rw [List.set_append_right _ _ (by lia), show σ.length + 1 - σ.length = 1 from by lia]; rfl

theorem ev_lineTokens {t tb tl : List Nat} {its : List Item} (he : t = flatI its ++ (tb ++ tl)) (hz : t.length ≤ 65536) (hl : its.length ≤ 65535) (hb : ∀ c ∈ tb, isBlank c = true) (h2 : ∀ c, tl[0]? = some c → isBlank c = false) (hd : restDone tl = true) (ok : ItsOk (tb ++ tl) its) :
    ∃ toks n col, ToksOf (its.map (·.2)) toks ∧ ev (d + 6) (.call 13 [.str t, .int 1] σ) (.v (.ref (σ.length + 1)) (σ ++ [rd t n, .lst (toks ++ [tokV kEnd [] (.str []) col])])) := by
  have hr0 : (σ ++ [rd t 0, .lst []])[σ.length]? = some (rd t 0) := app_get0 _ _
  have hf0 : (σ ++ [rd t 0, .lst []])[σ.length + 1]? = some (.lst []) := app_get1 _ _
  obtain ⟨toks, h1, h3⟩ := tok_loop (d := d) (r := σ.length) (f := σ.length + 1) hz hb h2 hd (by lia) (some (.str t)) (some (.int 1)) its 0 [] (σ ++ [rd t 0, .lst []]) hr0 hf0 (by simp; lia) (Nat.zero_le _) (by simpa using he) ok
  rw [app_set0, app_set1, List.nil_append] at h3
  generalize hn : 0 + (flatI its).length + tb.length = n at h3
  refine ⟨toks, n, (n : Int) + 1, h1, ?_⟩
  have hr1 : (σ ++ [rd t n, .lst toks])[σ.length]? = some (rd t n) := app_get0 _ _
  have hf1 : (σ ++ [rd t n, .lst toks])[σ.length + 1]? = some (.lst toks) := app_get1 _ _
  have htl : toks.length = its.length := by
    have : ∀ {l : List Lx} {r : List PV}, ToksOf l r → r.length = l.length := by
      intro l r h
      induction h with
      | nil => rfl
      | cons _ ih => simp [ih]
    rw [this h1]; simp
  refine do_call (fn := ⟨2, 4, b13⟩) rfl rfl (ρ' := [some (.str t), some (.int 1), some (.ref σ.length), some (.ref (σ.length + 1))]) ?_
  show ev (d + 5) (.ss b13 [some (.str t), some (.int 1), none, none] σ) _
  refine ss_next (x := .asg 2 _) (ρ' := [some (.str t), some (.int 1), some (.ref σ.length), none]) (σ' := σ ++ [rd t 0]) ?_ ?_; rotate_left
  · refine ss_next (x := .asg 3 _) (ρ' := [some (.str t), some (.int 1), some (.ref σ.length), some (.ref (σ.length + 1))]) (σ' := σ ++ [rd t 0, .lst []]) ?_ ?_; rotate_left
    · refine ss_next (x := .whl _ _) (by refine do_whl ?_; exact h3) ?_
      refine ss_next (x := .expr _) (ρ' := [some (.str t), some (.int 1), some (.ref σ.length), some (.ref (σ.length + 1))]) (σ' := σ ++ [rd t n, .lst (toks ++ [tokV kEnd [] (.str []) ((n : Int) + 1)])]) ?_ ?_; rotate_left
      · exact ss_ret1 (is_loc rfl)
      · refine do_expr (is_app (i := σ.length + 1) (is_loc rfl) (by simp [methK, hf1]) (es_1 (p := tokV kEnd [] (.str []) ((n : Int) + 1)) (σ' := σ ++ [rd t n, .lst toks]) ?_) ?_)
        · have p1 : ev (d + 5) (.e (.meth (.loc 2) 4 [(.attr (.loc 2) 3)]) [some (.str t), some (.int 1), some (.ref σ.length), some (.ref (σ.length + 1))] (σ ++ [rd t n, .lst toks])) (.v (placeV ((n : Int) + 1)) (σ ++ [rd t n, .lst toks])) := by
            refine is_meth (is_loc rfl) (by rw [rd_meth hr1]; rfl) (es_1 (is_attr (is_loc rfl) (rd_at hr1))) ?_
            exact ev_place hr1
          refine is_mk (es_c ev_e_str (es_c ev_e_str (es_c ev_e_str (es_1 p1)))) ?_
          exact mk_tok ..
        · simp only [lstOp, hf1]
          rw [if_pos (by lia), app_set1]
    · refine do_asg (v := .ref (σ.length + 1)) ?_
      exact ev_to (is_lst ev_es_nil (by decide)) (by simp)
  · refine do_asg (v := .ref σ.length) ?_
    refine is_mk (es_c (is_loc rfl) (es_1 (is_loc rfl))) ?_
    rfl
end Mine
end
section
namespace Mine
variable {d : Nat} {ρ : Loc} {σ : Store}

-- the cursor over the tokens
noncomputable def cur (k at_ : Nat) : MO := .inst 3 [(15, .ref k), (3, .int at_)]
theorem cur_toks {c k n : Nat} (h : σ[c]? = some (cur k n)) : attrV σ (.ref c) 15 = some (.ref k) := by simp [attrV, h, cur, List.lookup]
theorem cur_at {c k n : Nat} (h : σ[c]? = some (cur k n)) : attrV σ (.ref c) 3 = some (.int n) := by simp [attrV, h, cur, List.lookup]
theorem cur_set {c k n m : Nat} (h : σ[c]? = some (cur k n)) : setattrV σ (.ref c) 3 (.int m) = some (σ.set c (cur k m)) := by simp [setattrV, h, cur, List.lookup, setF]
theorem cur_meth {c k n : Nat} (h : σ[c]? = some (cur k n)) (m : Nat) : methK σ (.ref c) m = (methTab 3 m).map .call := by simp [methK, h, cur]
theorem sub_lst {k n : Nat} {l : List PV} {v : PV} (h : σ[k]? = some (.lst l)) (hv : l[n]? = some v) (hz : l.length ≤ 65537) : subV σ (.ref k) (.int n) = some v := by
  have : n < l.length := (List.getElem?_eq_some_iff.mp hv).1
  have h2 : (0 : Int) ≤ n ∧ (n : Int) < 1073741824 := by lia
  simp only [subV, lstAt, h, h2, and_self, if_true, Int.toNat_natCast, hv]
theorem tok_kind (k w : List Nat) (v : PV) (col : Int) : attrV σ (tokV k w v col) 0 = some (.str k) := rfl
theorem tok_text (k w : List Nat) (v : PV) (col : Int) : attrV σ (tokV k w v col) 1 = some (.str w) := rfl
theorem tok_worth (k w : List Nat) (v : PV) (col : Int) : attrV σ (tokV k w v col) 21 = some v := rfl
theorem tok_place (k w : List Nat) (v : PV) (col : Int) : attrV σ (tokV k w v col) 3 = some (placeV col) := rfl

/-- the store as the cursor sees it: the token at hand -/
structure At (σ : Store) (c k n : Nat) (l : List PV) (kd w : List Nat) (v : PV) (col : Int) : Prop where
  cur : σ[c]? = some (cur k n)
  lst : σ[k]? = some (.lst l)
  tok : l[n]? = some (tokV kd w v col)
  len : l.length ≤ 65537
theorem At.sub {c k n : Nat} {l : List PV} {kd w : List Nat} {v : PV} {col : Int} {x : Loc} (h : At σ c k n l kd w v col) (h0 : locAt x 0 = some (.ref c)) :
    ev d (.e (.sub (.attr (.loc 0) 15) (.attr (.loc 0) 3)) x σ) (.v (tokV kd w v col) σ) :=
  is_sub (is_attr (is_loc h0) (cur_toks h.cur)) (is_attr (is_loc h0) (cur_at h.cur)) (sub_lst h.lst h.tok h.len)
theorem ev_peek {c k n : Nat} {l : List PV} {kd w : List Nat} {v : PV} {col : Int} (h : At σ c k n l kd w v col) : ev (d + 1) (.call 14 [.ref c] σ) (.v (tokV kd w v col) σ) := by
  refine do_call (fn := ⟨1, 1, b14⟩) rfl rfl (ρ' := [some (.ref c)]) ?_
  show ev d (.ss b14 [some (.ref c)] σ) _
  exact ss_ret1 (h.sub rfl)
theorem ev_restPlace {c k n : Nat} {l : List PV} {kd w : List Nat} {v : PV} {col : Int} (h : At σ c k n l kd w v col) : ev (d + 1) (.call 21 [.ref c] σ) (.v (placeV col) σ) := by
  refine do_call (fn := ⟨1, 1, b21⟩) rfl rfl (ρ' := [some (.ref c)]) ?_
  show ev d (.ss b21 [some (.ref c)] σ) _
  exact ss_ret1 (is_attr (h.sub rfl) (tok_place ..))
theorem ev_isEnd {c k n : Nat} {l : List PV} {kd w : List Nat} {v : PV} {col : Int} (h : At σ c k n l kd w v col) : ev (d + 1) (.call 17 [.ref c] σ) (.v (.bool (kd == kEnd)) σ) := by
  refine do_call (fn := ⟨1, 1, b17⟩) rfl rfl (ρ' := [some (.ref c)]) ?_
  show ev d (.ss b17 [some (.ref c)] σ) _
  exact ss_ret1 (is_cmp (is_attr (h.sub rfl) (tok_kind ..)) ev_e_str rfl)
theorem ev_tokIs (kd w u : List Nat) (v : PV) (col : Int) : ev (d + 1) (.call 5 [tokV kd w v col, .str u] σ) (.v (.bool ((kd == kSign) && (w == u))) σ) := by
  refine do_call (fn := ⟨2, 2, b5⟩) rfl rfl (ρ' := [some (tokV kd w v col), some (.str u)]) ?_
  show ev d (.ss b5 [some (tokV kd w v col), some (.str u)] σ) _
  refine ss_ret1 ?_
  refine ev_e_and ?_
  exact and_cons (σ₁ := σ) (is_cmp (is_attr (is_loc rfl) (tok_kind ..)) ev_e_str rfl) (bools_one (is_cmp (is_attr (is_loc rfl) (tok_text ..)) (is_loc rfl) rfl))
theorem tok_meth (kd w : List Nat) (v : PV) (col : Int) : methK σ (tokV kd w v col) 16 = some (.call 5) := rfl
theorem ev_isSign {c k n : Nat} {l : List PV} {kd w u : List Nat} {v : PV} {col : Int} (h : At σ c k n l kd w v col) : ev (d + 2) (.call 16 [.ref c, .str u] σ) (.v (.bool ((kd == kSign) && (w == u))) σ) := by
  refine do_call (fn := ⟨2, 2, b16⟩) rfl rfl (ρ' := [some (.ref c), some (.str u)]) ?_
  show ev (d + 1) (.ss b16 [some (.ref c), some (.str u)] σ) _
  refine ss_ret1 ?_
  refine is_meth (h.sub rfl) (tok_meth ..) (es_1 (is_loc (v := .str u) rfl)) ?_
  exact ev_tokIs ..
/-- taking the token: the end stays -/
theorem ev_take {c k n : Nat} {l : List PV} {kd w : List Nat} {v : PV} {col : Int} (h : At σ c k n l kd w v col) (hk : (kd == kEnd) = false) : ev (d + 1) (.call 15 [.ref c] σ) (.v (tokV kd w v col) (σ.set c (cur k (n + 1)))) := by
  refine do_call (fn := ⟨1, 2, b15⟩) rfl rfl (ρ' := [some (.ref c), some (tokV kd w v col)]) ?_
  show ev d (.ss b15 [some (.ref c), none] σ) _
  refine ss_next (do_asg (h.sub rfl)) ?_
  refine ss_next (x := .ife _ _ _) (ρ' := [some (.ref c), some (tokV kd w v col)]) (σ' := σ.set c (cur k (n + 1))) ?_ ?_; rotate_left
  · exact ss_ret1 (is_loc rfl)
  · have c1 : ev d (.e (.cmp (.attr (.loc 1) 0) .ne (.str [101, 110, 100])) [some (.ref c), some (tokV kd w v col)] σ) (.v (.bool (!(kd == kEnd))) σ) := is_cmp (is_attr (is_loc rfl) (tok_kind ..)) ev_e_str rfl
    rw [hk] at c1
    rw [show ([some (.ref c), none] : Loc).set 1 (some (tokV kd w v col)) = [some (.ref c), some (tokV kd w v col)] from rfl]; refine do_ife c1 ?_
    show ev d (.ss [.setattr (.loc 0) 3 (.bop .add (.attr (.loc 0) 3) (.int 1))] [some (.ref c), some (tokV kd w v col)] σ) _
    refine ss_next (do_setattr (v := .int ((n + 1 : Nat) : Int)) (is_bop (is_attr (is_loc rfl) (cur_at h.cur)) ev_e_int rfl) (is_loc rfl) (cur_set h.cur)) ?_
    exact ev_ss_nil
/-- a sign that must stand here -/
theorem ev_need {c k n : Nat} {l : List PV} {w : List Nat} {v : PV} {col : Int} (h : At σ c k n l kSign w v col) : ev (d + 4) (.call 19 [.ref c, .str w] σ) (.v .none (σ.set c (cur k (n + 1)))) := by
  refine do_calln (fn := ⟨2, 2, b19⟩) rfl rfl (ρ' := [some (.ref c), some (.str w)]) ?_
  show ev (d + 3) (.ss b19 [some (.ref c), some (.str w)] σ) _
  have sk : ev (d + 3) (.call 18 [.ref c, .str w] σ) (.v (.bool true) (σ.set c (cur k (n + 1)))) := by
    refine do_call (fn := ⟨2, 2, b18⟩) rfl rfl (ρ' := [some (.ref c), some (.str w)]) ?_
    show ev (d + 2) (.ss b18 [some (.ref c), some (.str w)] σ) _
    refine ss_take (b := true) (σ' := σ) ?_ ?_
    · refine is_meth (is_loc rfl) (by rw [cur_meth h.cur]; rfl) (es_1 (is_loc (v := .str w) rfl)) ?_
      exact ev_to (ev_isSign h) (by simp)
    · refine ss_next (do_setattr (v := .int ((n + 1 : Nat) : Int)) (is_bop (is_attr (is_loc rfl) (cur_at h.cur)) ev_e_int rfl) (is_loc rfl) (cur_set h.cur)) ?_
      exact ss_ret1 ev_e_bool
  refine ss_next (x := .ife _ _ _) (ρ' := [some (.ref c), some (.str w)]) (σ' := σ.set c (cur k (n + 1))) ?_ ?_; rotate_left
  · exact ev_ss_nil
  · have c1 : ev (d + 3) (.e (.not (.meth (.loc 0) 17 [(.loc 1)])) [some (.ref c), some (.str w)] σ) (.v (.bool false) (σ.set c (cur k (n + 1)))) := by
      refine is_not (b := true) ?_
      refine is_meth (is_loc rfl) (by rw [cur_meth h.cur]; rfl) (es_1 (is_loc (v := .str w) rfl)) ?_
      exact sk
    refine do_ife c1 ?_
    exact ev_ss_nil
end Mine
end
section
namespace Mine
variable {d : Nat} {ρ : Loc} {σ : Store}

theorem adds (a b : List Nat) (h : a.length + b.length ≤ 65536) : bopV .add (.str a) (.str b) = some (.str (a ++ b)) := by rw [bop_adds, if_pos h]
theorem ev_needx {c k n : Nat} {l : List PV} {kd w u : List Nat} {v : PV} {col : Int} (h : At σ c k n l kd w v col) (hk : ((kd == kSign) && (w == u)) = false) (hu : u.length ≤ 60000) : ev (d + 4) (.call 19 [.ref c, .str u] σ) (.exc σ) := by
  refine do_callx (fn := ⟨2, 2, b19⟩) rfl rfl ?_
  show ev (d + 3) (.ss b19 [some (.ref c), some (.str u)] σ) _
  have sk : ev (d + 3) (.call 18 [.ref c, .str u] σ) (.v (.bool false) σ) := by
    refine do_call (fn := ⟨2, 2, b18⟩) rfl rfl (ρ' := [some (.ref c), some (.str u)]) ?_
    show ev (d + 2) (.ss b18 [some (.ref c), some (.str u)] σ) _
    refine ss_neg (b := false) (σ' := σ) ?_ rfl ?_; rotate_left
    · exact ss_ret1 ev_e_bool
    · refine is_meth (is_loc rfl) (by rw [cur_meth h.cur]; rfl) (es_1 (is_loc (v := .str u) rfl)) ?_; exact ev_to (ev_isSign h) (by rw [hk])
  have c1 : ev (d + 3) (.e (.not (.meth (.loc 0) 17 [(.loc 1)])) [some (.ref c), some (.str u)] σ) (.v (.bool true) σ) := by
    refine is_not (b := false) ?_
    refine is_meth (is_loc rfl) (by rw [cur_meth h.cur]; rfl) (es_1 (is_loc (v := .str u) rfl)) ?_
    exact sk
  refine ss_excd ?_
  refine do_ife c1 ?_; refine ss_excd (do_raise (t := [101, 120, 112, 101, 99, 116, 101, 100, 32] ++ u) (fs := [(2, .int 1), (33, .int col)]) (is_bop ev_e_str (is_loc rfl) (adds _ _ (by simp; lia))) ?_)
  refine is_meth (is_loc rfl) (by rw [cur_meth h.cur]; rfl) ev_es_nil ?_
  exact ev_restPlace h
theorem ev_needEnd {c k n : Nat} {l : List PV} {w : List Nat} {v : PV} {col : Int} (h : At σ c k n l kEnd w v col) : ev (d + 3) (.call 20 [.ref c] σ) (.v .none σ) := by
  refine do_calln (fn := ⟨1, 1, b20⟩) rfl rfl (ρ' := [some (.ref c)]) ?_
  show ev (d + 2) (.ss b20 [some (.ref c)] σ) _
  have c1 : ev (d + 2) (.e (.not (.meth (.loc 0) 19 [])) [some (.ref c)] σ) (.v (.bool false) σ) := by
    refine is_not (b := true) ?_
    refine is_meth (is_loc rfl) (by rw [cur_meth h.cur]; rfl) ev_es_nil ?_; exact ev_to (ev_isEnd h) rfl
  refine ss_neg c1 rfl ?_
  exact ev_ss_nil
theorem ev_needEndx {c k n : Nat} {l : List PV} {kd w : List Nat} {v : PV} {col : Int} (h : At σ c k n l kd w v col) (hk : (kd == kEnd) = false) (hw : w.length ≤ 60000) : ev (d + 3) (.call 20 [.ref c] σ) (.exc σ) := by
  refine do_callx (fn := ⟨1, 1, b20⟩) rfl rfl ?_
  show ev (d + 2) (.ss b20 [some (.ref c)] σ) _
  have c1 : ev (d + 2) (.e (.not (.meth (.loc 0) 19 [])) [some (.ref c)] σ) (.v (.bool true) σ) := by
    refine is_not (b := false) ?_
    refine is_meth (is_loc rfl) (by rw [cur_meth h.cur]; rfl) ev_es_nil ?_; exact ev_to (ev_isEnd h) (by rw [hk])
  refine ss_excd ?_
  refine do_ife c1 ?_; refine ss_excd (do_raise (t := [117, 110, 101, 120, 112, 101, 99, 116, 101, 100, 32] ++ w) (fs := [(2, .int 1), (33, .int col)]) (is_bop ev_e_str (is_attr (p := tokV kd w v col) (σ' := σ) ?_ (tok_text ..)) (adds _ _ (by simp; lia))) ?_)
  · refine is_meth (is_loc rfl) (by rw [cur_meth h.cur]; rfl) ev_es_nil ?_
    exact ev_peek h
  · refine is_meth (is_loc rfl) (by rw [cur_meth h.cur]; rfl) ev_es_nil ?_
    exact ev_restPlace h

/-- the level of a sign; nought for what joins nothing -/
noncomputable def levelOf (w : List Nat) : Int :=
  if (w == [43]) || (w == [45]) then 1 else if (w == [124]) || ((w == [38]) || (w == [94])) then 2
  else if (w == [42]) || ((w == [47]) || ((w == [37]) || ((w == [60, 60]) || (w == [62, 62])))) then 3 else 0
theorem ev_level (w : List Nat) : ev (d + 1) (.call 28 [.str w] σ) (.v (.int (levelOf w)) σ) := by
  refine do_call (fn := ⟨1, 1, b28⟩) rfl rfl (ρ' := [some (.str w)]) ?_
  show ev d (.ss b28 [some (.str w)] σ) _
  have eq : ∀ k : List Nat, ev d (.e (.cmp (.loc 0) .eq (.str k)) [some (.str w)] σ) (.v (.bool (w == k)) σ) := fun k => is_cmp (is_loc rfl) ev_e_str rfl
  have c1 : ev d (.e (.or [(.cmp (.loc 0) .eq (.str [43])), (.cmp (.loc 0) .eq (.str [45]))]) [some (.str w)] σ) (.v (.bool ((w == [43]) || (w == [45]))) σ) := by
    refine ev_e_or ?_; exact or_cons (σ₁ := σ) (eq _) (bools_one (eq _))
  have c2 : ev d (.e (.or [(.cmp (.loc 0) .eq (.str [124])), (.cmp (.loc 0) .eq (.str [38])), (.cmp (.loc 0) .eq (.str [94]))]) [some (.str w)] σ) (.v (.bool ((w == [124]) || ((w == [38]) || (w == [94])))) σ) := by
    refine ev_e_or ?_; exact or_cons (σ₁ := σ) (eq _) (or_cons (σ₁ := σ) (eq _) (bools_one (eq _)))
  have c3 : ev d (.e (.or [(.cmp (.loc 0) .eq (.str [42])), (.cmp (.loc 0) .eq (.str [47])), (.cmp (.loc 0) .eq (.str [37])), (.cmp (.loc 0) .eq (.str [60, 60])), (.cmp (.loc 0) .eq (.str [62, 62]))]) [some (.str w)] σ) (.v (.bool ((w == [42]) || ((w == [47]) || ((w == [37]) || ((w == [60, 60]) || (w == [62, 62])))))) σ) := by
    refine ev_e_or ?_; exact or_cons (σ₁ := σ) (eq _) (or_cons (σ₁ := σ) (eq _) (or_cons (σ₁ := σ) (eq _) (or_cons (σ₁ := σ) (eq _) (bools_one (eq _)))))
  unfold b28 levelOf
  cases h1 : ((w == [43]) || (w == [45]))
  · refine ss_neg c1 h1 ?_; cases h2 : ((w == [124]) || ((w == [38]) || (w == [94])))
    · refine ss_neg c2 h2 ?_; cases h3 : ((w == [42]) || ((w == [47]) || ((w == [37]) || ((w == [60, 60]) || (w == [62, 62])))))
      · refine ss_neg c3 h3 ?_; exact ss_ret1 ev_e_int
      · refine ss_take c3 ?_
        rw [h3, if_pos rfl]; exact ss_ret1 ev_e_int
    · refine ss_take c2 ?_
      rw [h2, if_pos rfl]; exact ss_ret1 ev_e_int
  · refine ss_take c1 ?_
    rw [h1, if_pos rfl]; exact ss_ret1 ev_e_int
noncomputable def binLevel (kd w : List Nat) : Int := if kd == kSign then levelOf w else 0
theorem ev_binLevel (kd w : List Nat) (v : PV) (col : Int) : ev (d + 2) (.call 29 [tokV kd w v col] σ) (.v (.int (binLevel kd w)) σ) := by
  refine do_call (fn := ⟨1, 1, b29⟩) rfl rfl (ρ' := [some (tokV kd w v col)]) ?_
  show ev (d + 1) (.ss b29 [some (tokV kd w v col)] σ) _
  have c1 : ev (d + 1) (.e (.cmp (.attr (.loc 0) 0) .ne (.str [115, 105, 103, 110])) [some (tokV kd w v col)] σ) (.v (.bool (!(kd == kSign))) σ) := is_cmp (is_attr (is_loc rfl) (tok_kind ..)) ev_e_str rfl
  unfold b29 binLevel
  cases h : (kd == kSign)
  · refine ss_take c1 ?_
    rw [h]
    exact ss_ret1 ev_e_int
  · rw [if_pos rfl]; refine ss_neg c1 (by rw [h]; rfl) ?_
    refine ss_ret1 ?_
    refine is_call (es_1 (is_attr (is_loc rfl) (tok_text ..))) ?_
    exact ev_level w
end Mine
end
section
namespace Mine
variable {d : Nat} {ρ : Loc} {σ : Store}

inductive T where
  | num (n : Int) | sym (s : List Nat) | here
  | un (s : List Nat) (t : T)
  | bin (s : List Nat) (l r : T)
/-- the told tuple -/
noncomputable def tv : T → PV
  | .num n => .tup [.str kNumber, .int n]
  | .sym s => .tup [.str [115, 121, 109, 98, 111, 108], .str s]
  | .here => .tup [.str [104, 101, 114, 101]]
  | .un s t => .tup [.str [117, 110, 97, 114, 121], .str s, tv t]
  | .bin s l r => .tup [.str [98, 105, 110, 97, 114, 121], .str s, tv l, tv r]
/-- the node -/
noncomputable def nv : T → PV
  | .num n => .inst 4 [(0, .str kNumber), (21, .int n)]
  | .sym s => .inst 5 [(0, .str [115, 121, 109, 98, 111, 108]), (22, .str s)]
  | .here => .inst 6 [(0, .str [104, 101, 114, 101])]
  | .un s t => .inst 7 [(0, .str [117, 110, 97, 114, 121]), (23, .str s), (24, nv t)]
  | .bin s l r => .inst 8 [(0, .str [98, 105, 110, 97, 114, 121]), (23, .str s), (27, nv l), (26, nv r)]
theorem mk_num (n : Int) : mkV 4 [.int n] σ = some (.v (nv (.num n)) σ) := rfl
theorem mk_sym (s : List Nat) : mkV 5 [.str s] σ = some (.v (nv (.sym s)) σ) := rfl
theorem mk_here : mkV 6 [] σ = some (.v (nv .here) σ) := rfl
theorem mk_un (s : List Nat) (t : T) : mkV 7 [.str s, nv t] σ = some (.v (nv (.un s t)) σ) := rfl
theorem mk_bin (s : List Nat) (l r : T) : mkV 8 [.str s, nv l, nv r] σ = some (.v (nv (.bin s l r)) σ) := rfl

noncomputable def isUn (w : List Nat) : Bool := (w == [45]) || ((w == [126]) || (w == [33]))
noncomputable def lev : List Lx → Int
  | .mark w :: _ => levelOf w
  | _ => 0
inductive Kd where
  | part (dep : Nat) | level (least : Nat) (dep : Nat) | loop (least : Nat) (dep : Nat) (left : T)
/-- what the reader reads: a tree and the rest, or an error -/
inductive R : Kd → List Lx → Option (T × List Lx) → Prop
  | deep {dep l} : 10 < dep → R (.part dep) l none
  | num {dep w l} : dep ≤ 10 → R (.part dep) (.num w :: l) (some (.num (worthFrom 0 w), l))
  | here {dep l} : dep ≤ 10 → R (.part dep) (.name [46] :: l) (some (.here, l))
  | sym {dep w l} : dep ≤ 10 → w ≠ [46] → R (.part dep) (.name w :: l) (some (.sym w, l))
  | un {dep w l t l'} : dep ≤ 10 → isUn w = true → R (.part (dep + 1)) l (some (t, l')) → R (.part dep) (.mark w :: l) (some (.un w t, l'))
  | unx {dep w l} : dep ≤ 10 → isUn w = true → R (.part (dep + 1)) l none → R (.part dep) (.mark w :: l) none
  | par {dep l t l'} : dep ≤ 10 → R (.level 1 (dep + 1)) l (some (t, .mark [41] :: l')) → R (.part dep) (.mark [40] :: l) (some (t, l'))
  | parx {dep l} : dep ≤ 10 → R (.level 1 (dep + 1)) l none → R (.part dep) (.mark [40] :: l) none
  | pary {dep l t l'} : dep ≤ 10 → R (.level 1 (dep + 1)) l (some (t, l')) → (∀ l'', l' ≠ .mark [41] :: l'') → R (.part dep) (.mark [40] :: l) none
  | other {dep w l} : dep ≤ 10 → isUn w = false → w ≠ [40] → R (.part dep) (.mark w :: l) none
  | done {dep} : dep ≤ 10 → R (.part dep) [] none
  | level {least dep l t l' r} : R (.part dep) l (some (t, l')) → R (.loop least dep t) l' r → R (.level least dep) l r
  | levelx {least dep l} : R (.part dep) l none → R (.level least dep) l none
  | stop {least dep : Nat} {t l} : lev l < (least : Int) → R (.loop least dep t) l (some (t, l))
  | more {least dep : Nat} {t w l u l' r} {lv : Nat} : levelOf w = (lv : Int) → least ≤ lv → 1 ≤ least → R (.level (lv + 1) dep) l (some (u, l')) → R (.loop least dep (.bin w t u)) l' r → R (.loop least dep t) (.mark w :: l) r
  | morex {least dep : Nat} {t w l} {lv : Nat} : levelOf w = (lv : Int) → least ≤ lv → 1 ≤ least → R (.level (lv + 1) dep) l none → R (.loop least dep t) (.mark w :: l) none

/-- how many calls deep -/
noncomputable def need : Kd → Nat
  | .part dep => 8 * (11 - dep) + 8
  | .level least dep => 8 * (11 - dep) + 8 + 6 - least
  | .loop least dep _ => 8 * (11 - dep) + 8 + 5 - least

/-- the tokens from here on: the lexemes, and the end -/
inductive Rest : List Lx → List PV → Prop
  | nil {col} : Rest [] [tokV kEnd [] (.str []) col]
  | cons {x l col r} : Rest l r → Rest (x :: l) (x.tok col :: r)
structure CurAt (σ : Store) (c k n : Nat) (toks : List PV) (l : List Lx) : Prop where
  cur : σ[c]? = some (cur k n)
  lst : σ[k]? = some (.lst toks)
  ne : c ≠ k
  rest : Rest l (toks.drop n)
  len : toks.length ≤ 65537
  small : ∀ x ∈ l, x.word.length ≤ 60000
theorem CurAt.move {c k n m : Nat} {toks : List PV} {l l' : List Lx} (h : CurAt σ c k n toks l) (hr : Rest l' (toks.drop m)) (hs : ∀ x ∈ l', x.word.length ≤ 60000) : CurAt (σ.set c (Mine.cur k m)) c k m toks l' :=
  ⟨get_set ⟨_, h.cur⟩, by rw [List.getElem?_set_ne h.ne]; exact h.lst, h.ne, hr, h.len, hs⟩
theorem CurAt.tail {c k n : Nat} {toks : List PV} {x : Lx} {l : List Lx} (h : CurAt σ c k n toks (x :: l)) : CurAt (σ.set c (Mine.cur k (n + 1))) c k (n + 1) toks l := by
  refine h.move ?_ fun y hy => h.small y (.tail _ hy)
  have := h.rest
  generalize e : toks.drop n = q at this
  cases this with
  | cons r =>
    have := congrArg (List.drop 1) e
    rw [List.drop_drop] at this
    rw [show toks.drop (n + 1) = _ from this]
    exact r

noncomputable def Lx.kd : Lx → List Nat
  | .name _ => kName
  | .num _ => kNumber
  | .mark _ => kSign
noncomputable def Lx.worth : Lx → PV
  | .name w => .str w
  | .num w => .int (worthFrom 0 w)
  | .mark w => .str w
theorem Lx.tok_eq (x : Lx) (col : Int) : x.tok col = tokV x.kd x.word x.worth col := by cases x <;> rfl
set_option tactic.hygienic true in
theorem CurAt.at {c k n : Nat} {toks : List PV} {x : Lx} {l : List Lx} (h : CurAt σ c k n toks (x :: l)) : ∃ col, At σ c k n toks x.kd x.word x.worth col := by
  have := h.rest
  generalize e : toks.drop n = q at this
  cases this with
  | cons r =>
    rename_i col r'
    refine ⟨col, h.cur, h.lst, ?_, h.len⟩
    have := congrArg (fun l => l[0]?) e
    rw [Lx.tok_eq] at this
    simpa using this
set_option tactic.hygienic true in
theorem CurAt.atEnd {c k n : Nat} {toks : List PV} (h : CurAt σ c k n toks []) : ∃ col, At σ c k n toks kEnd [] (.str []) col := by
  have := h.rest
  generalize e : toks.drop n = q at this
  cases this with
  | nil =>
    rename_i col
    refine ⟨col, h.cur, h.lst, ?_, h.len⟩
    have := congrArg (fun l => l[0]?) e
    simpa using this

/-- what an answer of the relation promises of the evaluator -/
noncomputable def Sp (k : Kd) (l : List Lx) (r : Option (T × List Lx)) : Prop := ∀ (dd : Nat) (σ : Store) (c kk n : Nat) (toks : List PV), need k ≤ dd → CurAt σ c kk n toks l → match k, r with
  | .part dep, some (t, l') => ∃ m, CurAt (σ.set c (Mine.cur kk m)) c kk m toks l' ∧ ev dd (.call 30 [.ref c, .int dep] σ) (.v (nv t) (σ.set c (Mine.cur kk m)))
  | .part dep, none => ∃ σ', ev dd (.call 30 [.ref c, .int dep] σ) (.exc σ')
  | .level least dep, some (t, l') => ∃ m, CurAt (σ.set c (Mine.cur kk m)) c kk m toks l' ∧ ev dd (.call 31 [.ref c, .int least, .int dep] σ) (.v (nv t) (σ.set c (Mine.cur kk m)))
  | .level least dep, none => ∃ σ', ev dd (.call 31 [.ref c, .int least, .int dep] σ) (.exc σ')
  | .loop least dep left, some (t, l') => ∃ m, CurAt (σ.set c (Mine.cur kk m)) c kk m toks l' ∧ ∀ s : Option PV, ∃ a b, ev dd (.whl (.cmp (.loc 4) .ge (.loc 1)) [.asg 5 (.attr (.meth (.loc 0) 29 []) 1), .asg 3 (.mk 8 [(.loc 5), (.loc 3), (.call 31 [(.loc 0), (.bop .add (.loc 4) (.int 1)), (.loc 2)])]), .asg 4 (.call 29 [(.meth (.loc 0) 20 [])])] [some (.ref c), some (.int least), some (.int dep), some (nv left), some (.int (lev l)), s] σ)
      (.fl .next [some (.ref c), some (.int least), some (.int dep), some (nv t), a, b] (σ.set c (Mine.cur kk m)))
  | .loop least dep left, none => ∀ s : Option PV, ∃ σ', ev dd (.whl (.cmp (.loc 4) .ge (.loc 1)) [.asg 5 (.attr (.meth (.loc 0) 29 []) 1), .asg 3 (.mk 8 [(.loc 5), (.loc 3), (.call 31 [(.loc 0), (.bop .add (.loc 4) (.int 1)), (.loc 2)])]), .asg 4 (.call 29 [(.meth (.loc 0) 20 [])])] [some (.ref c), some (.int least), some (.int dep), some (nv left), some (.int (lev l)), s] σ) (.exc σ')
end Mine
end
section
namespace Mine
variable {d : Nat} {ρ : Loc} {σ : Store}

/-- read_part's frame -/
noncomputable abbrev pfr (c : Nat) (dep : Nat) (x y : Option PV) : Loc := [some (.ref c), some (.int dep), x, y]
theorem p_peek {c k n : Nat} {l : List PV} {kd w : List Nat} {v : PV} {col : Int} {dep : Nat} {x y : Option PV} (h : At σ c k n l kd w v col) : ev (d + 1) (.e (.meth (.loc 0) 20 []) (pfr c dep x y) σ) (.v (tokV kd w v col) σ) := by
  refine is_meth (is_loc rfl) (by rw [cur_meth h.cur]; rfl) ev_es_nil ?_
  exact ev_peek h
theorem p_take {c k n : Nat} {l : List PV} {kd w : List Nat} {v : PV} {col : Int} {dep : Nat} {x y : Option PV} (h : At σ c k n l kd w v col) (hk : (kd == kEnd) = false) : ev (d + 1) (.e (.meth (.loc 0) 29 []) (pfr c dep x y) σ) (.v (tokV kd w v col) (σ.set c (cur k (n + 1)))) := by
  refine is_meth (is_loc rfl) (by rw [cur_meth h.cur]; rfl) ev_es_nil ?_
  exact ev_take h hk
theorem p_kind {c dep : Nat} {kd w q : List Nat} {v : PV} {col : Int} {y : Option PV} : ev d (.e (.cmp (.attr (.loc 2) 0) .eq (.str q)) (pfr c dep (some (tokV kd w v col)) y) σ) (.v (.bool (kd == q)) σ) := is_cmp (is_attr (is_loc rfl) (tok_kind ..)) ev_e_str rfl
theorem p_sign {c dep : Nat} {kd w q : List Nat} {v : PV} {col : Int} {y : Option PV} : ev (d + 1) (.e (.meth (.loc 2) 16 [(.str q)]) (pfr c dep (some (tokV kd w v col)) y) σ) (.v (.bool ((kd == kSign) && (w == q))) σ) := by
  refine is_meth (is_loc rfl) (tok_meth ..) (es_1 ev_e_str) ?_
  exact ev_tokIs ..
theorem p_deep {c dep : Nat} {x y : Option PV} : ev d (.e (.cmp (.loc 1) .gt (.glob 2)) (pfr c dep x y) σ) (.v (.bool (decide ((10 : Int) < dep))) σ) := is_cmp (is_loc rfl) (is_glob rfl) rfl
theorem call30 {dd : Nat} {c dep : Nat} {v : PV} {ρ' : Loc} {σ' : Store} (h : ev d (.ss b30 (pfr c dep none none) σ) (.fl (.ret v) ρ' σ')) : ev (d + 1) (.call 30 [.ref c, .int dep] σ) (.v v σ') := do_call (fn := ⟨2, 4, b30⟩) rfl rfl h
theorem call30x {dd : Nat} {c dep : Nat} {σ' : Store} (h : ev d (.ss b30 (pfr c dep none none) σ) (.exc σ')) : ev (d + 1) (.call 30 [.ref c, .int dep] σ) (.exc σ') := do_callx (fn := ⟨2, 4, b30⟩) rfl rfl h

theorem sp_deep {dep : Nat} {l : List Lx} (hd : 10 < dep) : Sp (.part dep) l none := by
  intro dd σ c kk n toks hn h
  obtain ⟨d, rfl⟩ : ∃ d, dd = d + 2 := ⟨dd - 2, by simp only [need] at hn; lia⟩
  have fin : ∀ kd w v col, At σ c kk n toks kd w v col → ∃ σ', ev (d + 2) (.call 30 [.ref c, .int dep] σ) (.exc σ') := fun kd w v col a => by
    refine ⟨σ, call30x (dd := 0) ?_⟩
    refine ss_next (do_asg (p_peek (d := d) a)) ?_
    refine ss_excd ?_
    refine do_ife p_deep ?_; rw [show decide ((10 : Int) < (dep : Int)) = true from by simp; lia, if_pos rfl]
    exact ss_excd (do_raise (fs := [(2, .int 1), (33, .int col)]) ev_e_str (is_attr (is_loc rfl) (tok_place kd w v col)))
  cases l with
  | nil => obtain ⟨col, a⟩ := h.atEnd; exact fin _ _ _ _ a
  | cons x l => obtain ⟨col, a⟩ := h.at; exact fin _ _ _ _ a
/-- past the depth's test -/
theorem p_past {c k n : Nat} {l : List PV} {kd w : List Nat} {v : PV} {col : Int} {dep : Nat} (h : At σ c k n l kd w v col) (hd : dep ≤ 10) {r : List S} {t : List S} {q : E} {o : Out}
    (hr : ev (d + 1) (.ss r (pfr c dep (some (tokV kd w v col)) none) σ) o) : ev (d + 1) (.ss (.asg 2 (.meth (.loc 0) 20 []) :: .ife (.cmp (.loc 1) .gt (.glob 2)) t [] :: r) (pfr c dep none none) σ) o := by
  refine ss_next (do_asg (p_peek (d := d) h)) ?_
  refine ss_neg (b := decide ((10 : Int) < dep)) (σ' := σ) (p_deep (x := some (tokV kd w v col)) (y := none)) (by simp; lia) ?_
  exact hr
theorem sp_num {dep : Nat} {w : List Nat} {l : List Lx} (hd : dep ≤ 10) : Sp (.part dep) (.num w :: l) (some (.num (worthFrom 0 w), l)) := by
  intro dd σ c kk n toks hn h
  obtain ⟨d, rfl⟩ : ∃ d, dd = d + 2 := ⟨dd - 2, by simp only [need] at hn; lia⟩
  obtain ⟨col, a⟩ := h.at
  have a' : At σ c kk n toks kNumber w (.int (worthFrom 0 w)) col := a
  refine ⟨n + 1, h.tail, call30 (dd := 0) (ρ' := pfr c dep (some (tokV kNumber w (.int (worthFrom 0 w)) col)) none) ?_⟩
  refine p_past (q := .none) a' hd ?_
  refine ss_take (b := true) (σ' := σ) p_kind ?_
  rw [if_pos rfl]; refine ss_next (do_expr (p_take a' rfl)) ?_
  refine ss_ret1 ?_
  refine is_mk (es_1 (is_attr (is_loc rfl) (tok_worth ..))) ?_
  exact mk_num _
theorem sp_here {dep : Nat} {l : List Lx} (hd : dep ≤ 10) : Sp (.part dep) (.name [46] :: l) (some (.here, l)) := by
  intro dd σ c kk n toks hn h
  obtain ⟨d, rfl⟩ : ∃ d, dd = d + 2 := ⟨dd - 2, by simp only [need] at hn; lia⟩
  obtain ⟨col, a⟩ := h.at
  have a' : At σ c kk n toks kName [46] (.str [46]) col := a
  refine ⟨n + 1, h.tail, call30 (dd := 0) (ρ' := pfr c dep (some (tokV kName [46] (.str [46]) col)) none) ?_⟩
  refine p_past (q := .none) a' hd ?_
  refine ss_neg (b := kName == [110, 117, 109, 98, 101, 114]) p_kind (by decide) ?_
  refine ss_take (b := true) (σ' := σ) p_kind ?_
  rw [if_pos rfl]; refine ss_next (do_expr (p_take a' rfl)) ?_
  refine ss_take (b := true) (is_cmp (is_attr (is_loc rfl) (tok_text ..)) ev_e_str rfl) ?_
  refine ss_ret1 ?_
  refine is_mk ev_es_nil ?_
  exact mk_here
theorem sp_sym {dep : Nat} {w : List Nat} {l : List Lx} (hd : dep ≤ 10) (hw : w ≠ [46]) : Sp (.part dep) (.name w :: l) (some (.sym w, l)) := by
  intro dd σ c kk n toks hn h
  obtain ⟨d, rfl⟩ : ∃ d, dd = d + 2 := ⟨dd - 2, by simp only [need] at hn; lia⟩
  obtain ⟨col, a⟩ := h.at
  have a' : At σ c kk n toks kName w (.str w) col := a
  refine ⟨n + 1, h.tail, call30 (dd := 0) (ρ' := pfr c dep (some (tokV kName w (.str w) col)) none) ?_⟩
  refine p_past (q := .none) a' hd ?_
  refine ss_neg (b := kName == [110, 117, 109, 98, 101, 114]) p_kind (by decide) ?_
  refine ss_take (b := true) (σ' := σ) p_kind ?_
  rw [if_pos rfl]; refine ss_next (do_expr (p_take a' rfl)) ?_
  refine ss_neg (b := w == [46]) (is_cmp (is_attr (is_loc rfl) (tok_text ..)) ev_e_str rfl) (beq_eq_false_iff_ne.mpr hw) ?_
  refine ss_ret1 ?_
  refine is_mk (es_1 (is_attr (is_loc rfl) (tok_text ..))) ?_
  exact mk_sym _
end Mine
end
section
namespace Mine
variable {d : Nat} {ρ : Loc} {σ : Store}

noncomputable abbrev mk_ (w : List Nat) (col : Int) : PV := tokV kSign w (.str w) col
theorem p_un {c dep : Nat} {w : List Nat} {col : Int} : ev (d + 1) (.e (.or [(.meth (.loc 2) 16 [(.str [45])]), (.meth (.loc 2) 16 [(.str [126])]), (.meth (.loc 2) 16 [(.str [33])])]) (pfr c dep (some (mk_ w col)) none) σ) (.v (.bool (isUn w)) σ) := by
  refine ev_e_or ?_
  have e : ∀ q, ev (d + 1) (.e (.meth (.loc 2) 16 [(.str q)]) (pfr c dep (some (mk_ w col)) none) σ) (.v (.bool (w == q)) σ) := fun q => by
    exact ev_to p_sign (by simp)
  exact or_cons (σ₁ := σ) (e _) (or_cons (σ₁ := σ) (e _) (bools_one (e _)))

noncomputable def markPart : List S := [
    .ife (.or [(.meth (.loc 2) 16 [(.str [45])]), (.meth (.loc 2) 16 [(.str [126])]), (.meth (.loc 2) 16 [(.str [33])])]) [.expr (.meth (.loc 0) 29 []), .ret (.mk 7 [(.attr (.loc 2) 1), (.call 30 [(.loc 0), (.bop .add (.loc 1) (.int 1))])])] [],
    .ife (.meth (.loc 2) 16 [(.str [40])]) [.expr (.meth (.loc 0) 29 []), .asg 3 (.call 31 [(.loc 0), (.int 1), (.bop .add (.loc 1) (.int 1))]), .expr (.meth (.loc 0) 30 [(.str [41])]), .ret (.loc 3)] [],
    .raise (.str [101, 120, 112, 101, 99, 116, 101, 100, 32, 97, 110, 32, 101, 120, 112, 114, 101, 115, 115, 105, 111, 110]) (.attr (.loc 2) 3)]
theorem p_mark {c k n dep : Nat} {toks : List PV} {w : List Nat} {col : Int} (a : At σ c k n toks kSign w (.str w) col) (hd : dep ≤ 10) : (∀ {oo}, ev (d + 1) (.ss markPart (pfr c dep (some (mk_ w col)) none) σ) oo → ev (d + 1) (.ss b30 (pfr c dep none none) σ) oo) := by
  intro o hk
  refine p_past (q := .none) a hd ?_
  refine ss_neg (b := kSign == [110, 117, 109, 98, 101, 114]) p_kind (by decide) ?_
  exact ss_neg (b := kSign == [110, 97, 109, 101]) p_kind (by decide) hk
theorem d1 {c dep : Nat} {x y : Option PV} : ev d (.e (.bop .add (.loc 1) (.int 1)) (pfr c dep x y) σ) (.v (.int ((dep + 1 : Nat) : Int)) σ) := is_bop (is_loc rfl) ev_e_int rfl

theorem sp_other {dep : Nat} {w : List Nat} {l : List Lx} (hd : dep ≤ 10) (h1 : isUn w = false) (h2 : w ≠ [40]) : Sp (.part dep) (.mark w :: l) none := by
  intro dd σ c kk n toks hn h
  obtain ⟨d, rfl⟩ : ∃ d, dd = d + 2 := ⟨dd - 2, by simp only [need] at hn; lia⟩
  obtain ⟨col, a⟩ := h.at
  have a' : At σ c kk n toks kSign w (.str w) col := a
  refine ⟨σ, call30x (dd := 0) ?_⟩
  refine p_mark a' hd ?_
  unfold markPart
  refine ss_neg p_un h1 ?_
  refine ss_neg (b := (kSign == kSign) && (w == [40])) p_sign (by rw [beq_eq_false_iff_ne.mpr h2]; simp) ?_
  exact ss_excd (do_raise (fs := [(2, .int 1), (33, .int col)]) ev_e_str (is_attr (is_loc rfl) (tok_place ..)))
theorem sp_done {dep : Nat} (hd : dep ≤ 10) : Sp (.part dep) [] none := by
  intro dd σ c kk n toks hn h
  obtain ⟨d, rfl⟩ : ∃ d, dd = d + 2 := ⟨dd - 2, by simp only [need] at hn; lia⟩
  obtain ⟨col, a⟩ := h.atEnd
  refine ⟨σ, call30x (dd := 0) ?_⟩
  refine p_past (q := .none) a hd ?_
  refine ss_neg (b := kEnd == [110, 117, 109, 98, 101, 114]) p_kind (by decide) ?_
  refine ss_neg (b := kEnd == [110, 97, 109, 101]) p_kind (by decide) ?_
  refine ss_neg (b := false) (σ' := σ) ?_ rfl ?_; rotate_left
  · refine ss_neg (b := (kEnd == kSign) && (([] : List Nat) == [40])) p_sign (by decide) ?_
    exact ss_excd (do_raise (fs := [(2, .int 1), (33, .int col)]) ev_e_str (is_attr (is_loc rfl) (tok_place ..)))
  · refine ev_e_or ?_
    have e : ∀ q, ev (d + 1) (.e (.meth (.loc 2) 16 [(.str q)]) (pfr c dep (some (tokV kEnd [] (.str []) col)) none) σ) (.v (.bool false) σ) := fun q => by
      exact ev_to p_sign rfl
    exact or_cons (σ₁ := σ) (p := false) (q := false) (e _) (or_cons (σ₁ := σ) (p := false) (q := false) (e _) (bools_one (e _)))
theorem sp_un {dep : Nat} {w : List Nat} {l l' : List Lx} {t : T} (hd : dep ≤ 10) (h1 : isUn w = true) (ih : Sp (.part (dep + 1)) l (some (t, l'))) : Sp (.part dep) (.mark w :: l) (some (.un w t, l')) := by
  intro dd σ c kk n toks hn h
  obtain ⟨d, rfl⟩ : ∃ d, dd = d + 2 := ⟨dd - 2, by simp only [need] at hn; lia⟩
  obtain ⟨col, a⟩ := h.at
  have a' : At σ c kk n toks kSign w (.str w) col := a
  obtain ⟨m, i1, i2⟩ := ih (d + 1) _ c kk (n + 1) toks (by simp only [need] at hn ⊢; lia) h.tail
  rw [List.set_set] at i1 i2
  refine ⟨m, i1, call30 (dd := 0) (ρ' := pfr c dep (some (mk_ w col)) none) ?_⟩
  refine p_mark a' hd ?_
  unfold markPart
  refine ss_take p_un ?_
  rw [h1, if_pos rfl]; refine ss_next (do_expr (p_take a' rfl)) ?_
  refine ss_ret1 ?_
  refine is_mk (es_c (p := .str w) (σ' := σ.set c (cur kk (n + 1))) (is_attr (is_loc rfl) (tok_text ..)) (es_1 (p := nv t) (σ' := σ.set c (cur kk m)) ?_)) ?_; rotate_left
  · exact mk_un _ _
  · refine is_call (es_c (is_loc (v := .ref c) rfl) (es_1 d1)) ?_
    exact i2
theorem sp_unx {dep : Nat} {w : List Nat} {l : List Lx} (hd : dep ≤ 10) (h1 : isUn w = true) (ih : Sp (.part (dep + 1)) l none) : Sp (.part dep) (.mark w :: l) none := by
  intro dd σ c kk n toks hn h
  obtain ⟨d, rfl⟩ : ∃ d, dd = d + 2 := ⟨dd - 2, by simp only [need] at hn; lia⟩
  obtain ⟨col, a⟩ := h.at
  have a' : At σ c kk n toks kSign w (.str w) col := a
  obtain ⟨τ, i2⟩ := ih (d + 1) _ c kk (n + 1) toks (by simp only [need] at hn ⊢; lia) h.tail
  refine ⟨τ, call30x (dd := 0) ?_⟩
  refine p_mark a' hd ?_
  unfold markPart
  refine ss_excd ?_
  refine do_ife p_un ?_; rw [h1, if_pos rfl]; refine ss_next (do_expr (p_take a' rfl)) ?_
  refine ss_excd (do_retx ?_)
  exact is_mkx (es_x2 (is_attr (p := mk_ w col) (σ' := σ.set c (cur kk (n + 1))) (is_loc rfl) (tok_text ..)) (es_x1 (is_call (es_c (is_loc (v := .ref c) rfl) (es_1 d1)) i2)))
end Mine
end
section
namespace Mine
variable {d : Nat} {ρ : Loc} {σ : Store}

theorem sp_parx {dep : Nat} {l : List Lx} (hd : dep ≤ 10) (ih : Sp (.level 1 (dep + 1)) l none) : Sp (.part dep) (.mark [40] :: l) none := by
  intro dd σ c kk n toks hn h
  obtain ⟨d, rfl⟩ : ∃ d, dd = d + 2 := ⟨dd - 2, by simp only [need] at hn; lia⟩
  obtain ⟨col, a⟩ := h.at
  have a' : At σ c kk n toks kSign [40] (.str [40]) col := a
  obtain ⟨τ, i2⟩ := ih (d + 1) _ c kk (n + 1) toks (by simp only [need] at hn ⊢; lia) h.tail
  refine ⟨τ, call30x (dd := 0) ?_⟩
  refine p_mark a' hd ?_
  unfold markPart
  refine ss_neg p_un (by decide) ?_
  refine ss_excd ?_
  refine do_ife (b := (kSign == kSign) && (([40] : List Nat) == [40])) p_sign ?_; rw [if_pos (by decide)]; refine ss_next (do_expr (p_take a' rfl)) ?_
  refine ss_excd (do_asgx ?_)
  refine is_call (es_c (is_loc (v := .ref c) rfl) (es_c ev_e_int (es_1 d1))) ?_
  exact i2
theorem sp_par {dep : Nat} {l l' : List Lx} {t : T} (hd : dep ≤ 10) (ih : Sp (.level 1 (dep + 1)) l (some (t, .mark [41] :: l'))) : Sp (.part dep) (.mark [40] :: l) (some (t, l')) := by
  intro dd σ c kk n toks hn h
  obtain ⟨d, rfl⟩ : ∃ d, dd = d + 5 := ⟨dd - 5, by simp only [need] at hn; lia⟩
  obtain ⟨col, a⟩ := h.at
  have a' : At σ c kk n toks kSign [40] (.str [40]) col := a
  obtain ⟨m, i1, i2⟩ := ih (d + 4) _ c kk (n + 1) toks (by simp only [need] at hn ⊢; lia) h.tail
  rw [List.set_set] at i1 i2
  obtain ⟨col2, a2⟩ := i1.at
  have a2' : At (σ.set c (cur kk m)) c kk m toks kSign [41] (.str [41]) col2 := a2
  have i3 := i1.tail
  rw [List.set_set] at i3
  refine ⟨m + 1, i3, call30 (dd := 0) (ρ' := pfr c dep (some (mk_ [40] col)) (some (nv t))) ?_⟩
  refine p_mark (d := d + 3) a' hd ?_
  unfold markPart
  refine ss_neg (p_un (d := d + 3)) (by decide) ?_
  refine ss_take (b := (kSign == kSign) && (([40] : List Nat) == [40])) (p_sign (d := d + 3)) ?_
  rw [if_pos (by decide)]; refine ss_next (do_expr (p_take (d := d + 3) a' rfl)) ?_
  refine ss_next (x := .asg 3 _) (ρ' := pfr c dep (some (mk_ [40] col)) (some (nv t))) (σ' := σ.set c (cur kk m)) ?_ ?_; rotate_left
  · refine ss_next (x := .expr _) (ρ' := pfr c dep (some (mk_ [40] col)) (some (nv t))) (σ' := σ.set c (cur kk (m + 1))) ?_ ?_; rotate_left
    · exact ss_ret1 (is_loc rfl)
    · refine do_expr (v := .none) ?_
      refine is_meth (is_loc rfl) (by rw [cur_meth a2'.cur]; rfl) (es_1 ev_e_str) ?_; exact ev_to (ev_need a2') (by rw [List.set_set])
  · refine do_asg (v := nv t) ?_
    refine is_call (es_c (is_loc (v := .ref c) rfl) (es_c ev_e_int (es_1 d1))) ?_
    exact i2
theorem sp_pary {dep : Nat} {l l' : List Lx} {t : T} (hd : dep ≤ 10) (ih : Sp (.level 1 (dep + 1)) l (some (t, l'))) (hne : ∀ l'', l' ≠ .mark [41] :: l'') : Sp (.part dep) (.mark [40] :: l) none := by
  intro dd σ c kk n toks hn h
  obtain ⟨d, rfl⟩ : ∃ d, dd = d + 5 := ⟨dd - 5, by simp only [need] at hn; lia⟩
  obtain ⟨col, a⟩ := h.at
  have a' : At σ c kk n toks kSign [40] (.str [40]) col := a
  obtain ⟨m, i1, i2⟩ := ih (d + 4) _ c kk (n + 1) toks (by simp only [need] at hn ⊢; lia) h.tail
  rw [List.set_set] at i1 i2
  have fin : ∀ kd w v col2, At (σ.set c (cur kk m)) c kk m toks kd w v col2 → ((kd == kSign) && (w == [41])) = false → ∃ σ', ev (d + 5) (.call 30 [.ref c, .int dep] σ) (.exc σ') := fun kd w v col2 a2 hk => by
    refine ⟨σ.set c (cur kk m), call30x (dd := 0) ?_⟩
    refine p_mark (d := d + 3) a' hd ?_
    unfold markPart
    refine ss_neg (p_un (d := d + 3)) (by decide) ?_
    refine ss_excd ?_
    refine do_ife (b := (kSign == kSign) && (([40] : List Nat) == [40])) (p_sign (d := d + 3)) ?_; rw [if_pos (by decide)]; refine ss_next (do_expr (p_take (d := d + 3) a' rfl)) ?_
    refine ss_next (x := .asg 3 _) (ρ' := pfr c dep (some (mk_ [40] col)) (some (nv t))) (σ' := σ.set c (cur kk m)) ?_ ?_; rotate_left
    · refine ss_excd (do_exprx ?_)
      refine is_meth (is_loc rfl) (by rw [cur_meth a2.cur]; rfl) (es_1 ev_e_str) ?_; exact ev_needx a2 hk (by decide)
    · refine do_asg (v := nv t) ?_
      refine is_call (es_c (is_loc (v := .ref c) rfl) (es_c ev_e_int (es_1 d1))) ?_
      exact i2
  cases l' with
  | nil =>
    obtain ⟨col2, a2⟩ := i1.atEnd
    exact fin _ _ _ _ a2 (by decide)
  | cons x l' =>
    obtain ⟨col2, a2⟩ := i1.at
    refine fin _ _ _ _ a2 ?_
    cases x with
    | name w => show ((kName == kSign) && _) = false; rw [show (kName == kSign) = false from by decide]; rfl
    | num w => show ((kNumber == kSign) && _) = false; rw [show (kNumber == kSign) = false from by decide]; rfl
    | mark w =>
      have : w ≠ [41] := fun e => hne l' (by rw [e])
      show ((kSign == kSign) && (w == [41])) = false
      rw [beq_eq_false_iff_ne.mpr this]; simp
end Mine
end
section
namespace Mine
variable {d : Nat} {ρ : Loc} {σ : Store}

/-- read_level's frame -/
noncomputable abbrev lfr (c least dep : Nat) (x y z : Option PV) : Loc := [some (.ref c), some (.int least), some (.int dep), x, y, z]
theorem l_lev {c k n least dep : Nat} {toks : List PV} {l : List Lx} {x y z : Option PV} (h : CurAt σ c k n toks l) : ev (d + 2) (.e (.call 29 [(.meth (.loc 0) 20 [])]) (lfr c least dep x y z) σ) (.v (.int (lev l)) σ) := by
  have go : ∀ kd w v col, At σ c k n toks kd w v col → binLevel kd w = lev l → ev (d + 2) (.e (.call 29 [(.meth (.loc 0) 20 [])]) (lfr c least dep x y z) σ) (.v (.int (lev l)) σ) := fun kd w v col a e => by
    rw [← e]
    exact is_call (es_1 (is_meth (is_loc rfl) (by rw [cur_meth a.cur]; rfl) ev_es_nil (ev_peek a))) (ev_binLevel ..)
  cases l with
  | nil => obtain ⟨col, a⟩ := h.atEnd; exact go _ _ _ _ a (by decide)
  | cons q l =>
    obtain ⟨col, a⟩ := h.at
    cases q with
    | name w => exact go _ _ _ _ a (by unfold binLevel; rw [show (Lx.kd (.name w) == kSign) = false from (by decide : (kName == kSign) = false)]; rfl)
    | num w => exact go _ _ _ _ a (by unfold binLevel; rw [show (Lx.kd (.num w) == kSign) = false from (by decide : (kNumber == kSign) = false)]; rfl)
    | mark w => exact go _ _ _ _ a (by unfold binLevel; rw [show (Lx.kd (.mark w) == kSign) = true from (by decide : (kSign == kSign) = true)]; rfl)
noncomputable def loopCond : E := .cmp (.loc 4) .ge (.loc 1)
noncomputable def loopBody : List S := [.asg 5 (.attr (.meth (.loc 0) 29 []) 1), .asg 3 (.mk 8 [(.loc 5), (.loc 3), (.call 31 [(.loc 0), (.bop .add (.loc 4) (.int 1)), (.loc 2)])]), .asg 4 (.call 29 [(.meth (.loc 0) 20 [])])]
theorem l_cond {c least dep : Nat} {x z : Option PV} {v : Int} : ev d (.e loopCond (lfr c least dep x (some (.int v)) z) σ) (.v (.bool (decide ((least : Int) ≤ v))) σ) := is_cmp (is_loc rfl) (is_loc rfl) rfl

theorem sp_levelx {least dep : Nat} {l : List Lx} (hl : least ≤ 4) (ih : Sp (.part dep) l none) : Sp (.level least dep) l none := by
  intro dd σ c kk n toks hn h
  obtain ⟨d, rfl⟩ : ∃ d, dd = d + 1 := ⟨dd - 1, by simp only [need] at hn; lia⟩
  obtain ⟨τ, i2⟩ := ih d _ c kk n toks (by simp only [need] at hn ⊢; lia) h
  refine ⟨τ, do_callx (fn := ⟨3, 6, b31⟩) rfl rfl ?_⟩
  show ev d (.ss b31 (lfr c least dep none none none) σ) _
  refine ss_excd (do_asgx ?_)
  refine is_call (es_c (is_loc (v := .ref c) rfl) (es_1 (is_loc (v := .int dep) rfl))) ?_
  exact i2
theorem sp_level {least dep : Nat} {l l' : List Lx} {t : T} {r : Option (T × List Lx)} (hl : least ≤ 4) (ih : Sp (.part dep) l (some (t, l'))) (ih2 : Sp (.loop least dep t) l' r) : Sp (.level least dep) l r := by
  intro dd σ c kk n toks hn h
  obtain ⟨d, rfl⟩ : ∃ d, dd = d + 3 := ⟨dd - 3, by simp only [need] at hn; lia⟩
  obtain ⟨m, i1, i2⟩ := ih (d + 2) _ c kk n toks (by simp only [need] at hn ⊢; lia) h
  have j := ih2 (d + 2) _ c kk m toks (by simp only [need] at hn ⊢; lia) i1
  have pre : ∀ o, ev (d + 2) (.ss [.whl loopCond loopBody, .ret (.loc 3)] (lfr c least dep (some (nv t)) (some (.int (lev l'))) none) (σ.set c (cur kk m))) o → ev (d + 2) (.ss b31 (lfr c least dep none none none) σ) o := fun o ho => by
    refine ss_next (x := .asg 3 _) (ρ' := lfr c least dep (some (nv t)) none none) (σ' := σ.set c (cur kk m)) ?_ ?_; rotate_left
    · refine ss_next (x := .asg 4 _) (ρ' := lfr c least dep (some (nv t)) (some (.int (lev l'))) none) (σ' := σ.set c (cur kk m)) (do_asg (l_lev i1)) ?_
      exact ho
    · refine do_asg (v := nv t) ?_
      refine is_call (es_c (is_loc (v := .ref c) rfl) (es_1 (is_loc (v := .int dep) rfl))) ?_
      exact i2
  cases r with
  | none =>
    obtain ⟨τ, j⟩ := j none
    refine ⟨τ, do_callx (fn := ⟨3, 6, b31⟩) rfl rfl (pre _ ?_)⟩
    exact ss_excd (by refine do_whl ?_; exact j)
  | some q =>
    obtain ⟨u, l2⟩ := q
    obtain ⟨m2, j1, j2⟩ := j
    rw [List.set_set] at j1 j2
    obtain ⟨a, b, j2⟩ := j2 none
    refine ⟨m2, j1, do_call (fn := ⟨3, 6, b31⟩) (ρ' := lfr c least dep (some (nv u)) a b) rfl rfl (pre _ ?_)⟩
    refine ss_next (x := .whl _ _) (by refine do_whl ?_; exact j2) ?_
    exact ss_ret1 (is_loc rfl)
theorem sp_stop {least dep : Nat} {t : T} {l : List Lx} (h1 : lev l < (least : Int)) : Sp (.loop least dep t) l (some (t, l)) := by
  intro dd σ c kk n toks hn h
  have e : σ.set c (cur kk n) = σ := set_same h.cur
  refine ⟨n, by rw [e]; exact h, fun s => ⟨some (.int (lev l)), s, ?_⟩⟩
  rw [e]
  refine whl_end ?_
  have := l_cond (d := dd) (σ := σ) (c := c) (least := least) (dep := dep) (x := some (nv t)) (v := lev l) (z := s)
  rw [show decide ((least : Int) ≤ lev l) = false from by simp; lia] at this
  exact this
end Mine
end
section
namespace Mine
variable {d : Nat} {ρ : Loc} {σ : Store}

theorem level_le (w : List Nat) : levelOf w ≤ 3 := by
  unfold levelOf
  split
  · decide
  · split
    · decide
    · split <;> decide
theorem lv_le {w : List Nat} {lv : Nat} (h1 : levelOf w = (lv : Int)) : lv + 1 ≤ 4 := by
  have := level_le w
  rw [h1] at this; lia
theorem l_take {c k n least dep : Nat} {toks : List PV} {w : List Nat} {col : Int} {x y z : Option PV} (a : At σ c k n toks kSign w (.str w) col) : ev (d + 1) (.e (.attr (.meth (.loc 0) 29 []) 1) (lfr c least dep x y z) σ) (.v (.str w) (σ.set c (cur k (n + 1)))) := by
  refine is_attr (p := mk_ w col) ?_ (tok_text ..)
  refine is_meth (is_loc rfl) (by rw [cur_meth a.cur]; rfl) ev_es_nil ?_
  exact ev_take a rfl
theorem l_add {c least dep lv : Nat} {x z : Option PV} : ev d (.e (.bop .add (.loc 4) (.int 1)) (lfr c least dep x (some (.int lv)) z) σ) (.v (.int ((lv + 1 : Nat) : Int)) σ) := is_bop (is_loc rfl) ev_e_int rfl

theorem sp_morex {least dep lv : Nat} {t : T} {w : List Nat} {l : List Lx} (h1 : levelOf w = (lv : Int)) (h2 : least ≤ lv) (ih : Sp (.level (lv + 1) dep) l none) : Sp (.loop least dep t) (.mark w :: l) none := by
  intro dd σ c kk n toks hn h s
  have hlv := lv_le h1
  obtain ⟨d, rfl⟩ : ∃ d, dd = d + 2 := ⟨dd - 2, by simp only [need] at hn; lia⟩
  obtain ⟨col, a⟩ := h.at
  have a' : At σ c kk n toks kSign w (.str w) col := a
  obtain ⟨τ, i2⟩ := ih (d + 2) _ c kk (n + 1) toks (by simp only [need] at hn ⊢; lia) h.tail
  refine ⟨τ, ?_⟩
  have e : lev (.mark w :: l) = (lv : Int) := h1
  rw [e]
  have cnd := l_cond (d := d + 2) (σ := σ) (c := c) (least := least) (dep := dep) (x := some (nv t)) (v := (lv : Int)) (z := s)
  rw [decide_eq_true (by lia)] at cnd
  refine whl_exc cnd (ss_next (x := .asg 5 _) (ρ' := lfr c least dep (some (nv t)) (some (.int lv)) (some (.str w))) (σ' := σ.set c (cur kk (n + 1))) (do_asg (l_take a')) ?_)
  exact ss_excd (do_asgx (is_mkx (es_x2 (is_loc (v := .str w) rfl) (es_x2 (is_loc (v := nv t) rfl) (es_x1 (is_call (es_c (is_loc (v := .ref c) rfl) (es_c l_add (es_1 (is_loc (v := .int dep) rfl)))) i2))))))
theorem sp_more {least dep lv : Nat} {t u : T} {w : List Nat} {l l' : List Lx} {r : Option (T × List Lx)} (h1 : levelOf w = (lv : Int)) (h2 : least ≤ lv) (ih : Sp (.level (lv + 1) dep) l (some (u, l'))) (ih2 : Sp (.loop least dep (.bin w t u)) l' r) : Sp (.loop least dep t) (.mark w :: l) r := by
  intro dd σ c kk n toks hn h
  have hlv := lv_le h1
  obtain ⟨d, rfl⟩ : ∃ d, dd = d + 2 := ⟨dd - 2, by simp only [need] at hn; lia⟩
  obtain ⟨col, a⟩ := h.at
  have a' : At σ c kk n toks kSign w (.str w) col := a
  obtain ⟨m, i1, i2⟩ := ih (d + 2) _ c kk (n + 1) toks (by simp only [need] at hn ⊢; lia) h.tail
  rw [List.set_set] at i1 i2
  have j := ih2 (d + 2) _ c kk m toks (by simp only [need] at hn ⊢; lia) i1
  have e : lev (.mark w :: l) = (lv : Int) := h1
  have turn : ∀ s : Option PV, (∀ {oo}, ev (d + 2) (.whl loopCond loopBody (lfr c least dep (some (nv (.bin w t u))) (some (.int (lev l'))) (some (.str w))) (σ.set c (cur kk m))) oo → ev (d + 2) (.whl loopCond loopBody (lfr c least dep (some (nv t)) (some (.int lv)) s) σ) oo) := fun s oo hk => by
    have cnd := l_cond (d := d + 2) (σ := σ) (c := c) (least := least) (dep := dep) (x := some (nv t)) (v := (lv : Int)) (z := s)
    rw [decide_eq_true (by lia)] at cnd
    refine whl_turn cnd ?_ hk
    refine ss_next (x := .asg 5 _) (ρ' := lfr c least dep (some (nv t)) (some (.int lv)) (some (.str w))) (σ' := σ.set c (cur kk (n + 1))) (do_asg (l_take a')) ?_
    refine ss_next (x := .asg 3 _) (ρ' := lfr c least dep (some (nv (.bin w t u))) (some (.int lv)) (some (.str w))) (σ' := σ.set c (cur kk m)) ?_ ?_; rotate_left
    · refine ss_next (x := .asg 4 _) (ρ' := lfr c least dep (some (nv (.bin w t u))) (some (.int (lev l'))) (some (.str w))) (σ' := σ.set c (cur kk m)) (do_asg (l_lev i1)) ?_
      exact ev_ss_nil
    · refine do_asg (v := nv (.bin w t u)) ?_
      refine is_mk (es_c (is_loc (v := .str w) rfl) (es_c (is_loc (v := nv t) rfl) (es_1 (p := nv u) (σ' := σ.set c (cur kk m)) ?_))) ?_; rotate_left
      · exact mk_bin _ _ _
      · refine is_call (es_c (is_loc (v := .ref c) rfl) (es_c l_add (es_1 (is_loc (v := .int dep) rfl)))) ?_
        exact i2
  cases r with
  | none =>
    intro s
    obtain ⟨τ, j⟩ := j (some (.str w))
    refine ⟨τ, ?_⟩
    rw [e]
    exact turn s j
  | some q =>
    obtain ⟨v, l2⟩ := q
    obtain ⟨m2, j1, j2⟩ := j
    rw [List.set_set] at j1 j2
    refine ⟨m2, j1, fun s => ?_⟩
    obtain ⟨x, y, j2⟩ := j2 (some (.str w))
    refine ⟨x, y, ?_⟩
    rw [e]
    exact turn s j2

noncomputable def okK : Kd → Prop
  | .part _ => True
  | .level least _ => least ≤ 4
  | .loop least _ _ => least ≤ 4
theorem sp_of {k : Kd} {l : List Lx} {r : Option (T × List Lx)} (h : R k l r) : okK k → Sp k l r := by
  induction h with
  | deep h => exact fun _ => sp_deep h
  | num h => exact fun _ => sp_num h
  | here h => exact fun _ => sp_here h
  | sym h h2 => exact fun _ => sp_sym h h2
  | un h h2 _ ih => exact fun _ => sp_un h h2 (ih trivial)
  | unx h h2 _ ih => exact fun _ => sp_unx h h2 (ih trivial)
  | par h _ ih => exact fun _ => sp_par h (ih (by show 1 ≤ 4; decide))
  | parx h _ ih => exact fun _ => sp_parx h (ih (by show 1 ≤ 4; decide))
  | pary h _ h2 ih => exact fun _ => sp_pary h (ih (by show 1 ≤ 4; decide)) h2
  | other h h1 h2 => exact fun _ => sp_other h h1 h2
  | done h => exact fun _ => sp_done h
  | level _ _ ih1 ih2 => exact fun o => sp_level o (ih1 trivial) (ih2 o)
  | levelx _ ih => exact fun o => sp_levelx o (ih trivial)
  | stop h => exact fun _ => sp_stop h
  | more h1 h2 _ _ _ ih1 ih2 => exact fun o => sp_more h1 h2 (ih1 (lv_le h1)) (ih2 o)
  | morex h1 h2 _ _ ih => exact fun o => sp_morex h1 h2 (ih (lv_le h1))
end Mine
end
section
namespace Mine

/-- the rest is no longer than what was there -/
noncomputable def Less (k : Kd) (l : List Lx) : Option (T × List Lx) → Prop
  | none => True
  | some (_, l') => match k with
    | .loop .. => l'.length ≤ l.length
    | _ => l'.length < l.length
theorem level_nn (w : List Nat) : 0 ≤ levelOf w := by
  unfold levelOf
  split
  · decide
  · split
    · decide
    · split <;> decide
theorem total : ∀ (n : Nat), (∀ dep l, l.length < n → ∃ r, R (.part dep) l r ∧ Less (.part dep) l r) ∧ (∀ least dep l, 1 ≤ least → l.length < n → ∃ r, R (.level least dep) l r ∧ Less (.level least dep) l r) ∧
    (∀ least dep t l, 1 ≤ least → l.length ≤ n → ∃ r, R (.loop least dep t) l r ∧ Less (.loop least dep t) l r) := by
  intro n
  induction n with
  | zero =>
    refine ⟨fun dep l h => absurd h (Nat.not_lt_zero _), fun least dep l _ h => absurd h (Nat.not_lt_zero _), fun least dep t l h1 h => ?_⟩
    obtain rfl : l = [] := List.length_eq_zero_iff.mp (Nat.le_zero.mp h)
    exact ⟨_, .stop (by show (0 : Int) < least; lia), Nat.le_refl _⟩
  | succ n ih =>
    obtain ⟨p0, l0, o0⟩ := ih
    have p1 : ∀ dep l, l.length < n + 1 → ∃ r, R (.part dep) l r ∧ Less (.part dep) l r := fun dep l h => by
      by_cases hd : 10 < dep
      · exact ⟨none, .deep hd, trivial⟩
      have hd' : dep ≤ 10 := by lia
      cases l with
      | nil => exact ⟨none, .done hd', trivial⟩
      | cons x l =>
        have hl : l.length < n := by simpa using h
        cases x with
        | num w => exact ⟨_, .num hd', by show l.length < l.length + 1; lia⟩
        | name w =>
          by_cases hw : w = [46]
          · subst hw; exact ⟨_, .here hd', by show l.length < l.length + 1; lia⟩
          · exact ⟨_, .sym hd' hw, by show l.length < l.length + 1; lia⟩
        | mark w =>
          cases hu : isUn w
          · by_cases hw : w = [40]
            · subst hw
              obtain ⟨r, h1, h2⟩ := l0 1 (dep + 1) l (Nat.le_refl _) hl
              cases r with
              | none => exact ⟨none, .parx hd' h1, trivial⟩
              | some q =>
                obtain ⟨t, l'⟩ := q
                have h2' : l'.length < l.length := h2
                cases l' with
                | nil => exact ⟨none, .pary hd' h1 (fun _ e => by cases e), trivial⟩
                | cons y l' =>
                  by_cases hy : y = .mark [41]
                  · subst hy
                    exact ⟨_, .par hd' h1, by show l'.length < l.length + 1; simp at h2'; lia⟩
                  · exact ⟨none, .pary hd' h1 (fun _ e => by injection e with e _; exact hy e), trivial⟩
            · exact ⟨none, .other hd' hu hw, trivial⟩
          · obtain ⟨r, h1, h2⟩ := p0 (dep + 1) l hl
            cases r with
            | none => exact ⟨none, .unx hd' hu h1, trivial⟩
            | some q =>
              obtain ⟨t, l'⟩ := q
              have h2' : l'.length < l.length := h2
              exact ⟨_, .un hd' hu h1, by show l'.length < l.length + 1; lia⟩
    have l1 : ∀ least dep l, 1 ≤ least → l.length < n + 1 → ∃ r, R (.level least dep) l r ∧ Less (.level least dep) l r := fun least dep l h1 h => by
      obtain ⟨r, r1, r2⟩ := p1 dep l h
      cases r with
      | none => exact ⟨none, .levelx r1, trivial⟩
      | some q =>
        obtain ⟨t, l'⟩ := q
        have r2' : l'.length < l.length := r2
        obtain ⟨r', r3, r4⟩ := o0 least dep t l' h1 (by lia)
        refine ⟨r', .level r1 r3, ?_⟩
        cases r' with
        | none => trivial
        | some q3 =>
          obtain ⟨v, l2⟩ := q3
          have r4' : l2.length ≤ l'.length := r4
          show l2.length < l.length
          lia
    have o1 : ∀ least dep t l, 1 ≤ least → l.length ≤ n + 1 → ∃ r, R (.loop least dep t) l r ∧ Less (.loop least dep t) l r := fun least dep t l h1 h => by
      cases l with
      | nil => exact ⟨_, .stop (by show (0 : Int) < least; lia), Nat.le_refl _⟩
      | cons x l =>
        have hl : l.length ≤ n := by simpa using h
        cases x with
        | num w => exact ⟨_, .stop (by show (0 : Int) < least; lia), Nat.le_refl _⟩
        | name w => exact ⟨_, .stop (by show (0 : Int) < least; lia), Nat.le_refl _⟩
        | mark w =>
          by_cases hw : levelOf w < least
          · exact ⟨_, .stop hw, Nat.le_refl _⟩
          · obtain ⟨lv, hlv⟩ : ∃ lv : Nat, levelOf w = (lv : Int) := ⟨(levelOf w).toNat, by have := level_nn w; lia⟩
            have h2 : least ≤ lv := by lia
            obtain ⟨r, r1, r2⟩ := l1 (lv + 1) dep l (by lia) (by lia)
            cases r with
            | none => exact ⟨none, .morex hlv h2 h1 r1, trivial⟩
            | some q2 =>
              obtain ⟨u, l'⟩ := q2
              have r2' : l'.length < l.length := r2
              obtain ⟨r', r3, r4⟩ := o0 least dep (.bin w t u) l' h1 (by lia)
              refine ⟨r', .more hlv h2 h1 r1 r3, ?_⟩
              cases r' with
              | none => trivial
              | some q3 =>
                obtain ⟨v, l2⟩ := q3
                have r4' : l2.length ≤ l'.length := r4
                show l2.length ≤ l.length + 1
                lia
    exact ⟨p1, l1, o1⟩
end Mine
end
section
namespace Mine

/-- the pairs that the text of the tree has, read at that closeness -/
noncomputable def cnt : T → Int → Nat
  | .un _ t, _ => cnt t 4
  | .bin w l r, c => cnt l (levelOf w) + cnt r (levelOf w + 1) + (if levelOf w < c then 1 else 0)
  | _, _ => 0
noncomputable def nOpen : List Lx → Nat
  | [] => 0
  | .mark w :: l => (if w = [40] then 1 else 0) + nOpen l
  | _ :: l => nOpen l
theorem cnt_mono {t : T} {c c' : Int} (h : c ≤ c') : cnt t c ≤ cnt t c' := by
  cases t with
  | bin w l r =>
    show cnt l _ + cnt r _ + _ ≤ cnt l _ + cnt r _ + _
    split <;> split <;> lia
  | _ => exact Nat.le_refl _
theorem cnt_four {t : T} : cnt t 4 ≤ cnt t 1 + 1 := by
  cases t with
  | bin w l r =>
    show cnt l _ + cnt r _ + _ ≤ cnt l _ + cnt r _ + _ + 1
    split <;> split <;> lia
  | num n => exact Nat.zero_le _
  | sym s => exact Nat.zero_le _
  | here => exact Nat.zero_le _
  | un s t => exact Nat.le_succ _
theorem un_ne {w : List Nat} (h : isUn w = true) : w ≠ [40] := fun e => by rw [e] at h; exact absurd h (by decide)
theorem lev_ne {w : List Nat} {lv : Nat} (h : levelOf w = (lv : Int)) (h1 : 1 ≤ lv) : w ≠ [40] := fun e => by
  rw [e] at h
  have : levelOf [40] = 0 := by decide
  rw [this] at h; lia
noncomputable def Cn (k : Kd) (l : List Lx) : Option (T × List Lx) → Prop
  | none => True
  | some (t, l') => match k with
    | .part _ => nOpen l' + cnt t 4 ≤ nOpen l
    | .level least _ => nOpen l' + cnt t least ≤ nOpen l ∧ lev l' < (least : Int)
    | .loop least _ left => (∀ b, cnt left least ≤ b → ((least : Int) ≤ lev l → cnt left (lev l) ≤ b) → nOpen l' + cnt t least ≤ b + nOpen l) ∧ lev l' < (least : Int)
theorem lev_le (l : List Lx) : lev l ≤ 3 := by
  unfold lev
  split
  · exact level_le _
  · decide
theorem count {k : Kd} {l : List Lx} {r : Option (T × List Lx)} (h : R k l r) : okK k → Cn k l r := by
  induction h with
  | deep | unx | parx | pary | other | done | levelx | morex => exact fun _ => trivial
  | num h => exact fun _ => by show nOpen _ + 0 ≤ nOpen _; exact Nat.le_refl _
  | here h => exact fun _ => by show nOpen _ + 0 ≤ nOpen _; exact Nat.le_refl _
  | sym h h2 => exact fun _ => by show nOpen _ + 0 ≤ nOpen _; exact Nat.le_refl _
  | @un dep w l t l' h h2 _ ih =>
    intro _
    have q : nOpen l' + cnt t 4 ≤ nOpen l := ih trivial
    show nOpen l' + cnt t 4 ≤ (if w = [40] then 1 else 0) + nOpen l
    rw [if_neg (un_ne h2)]
    lia
  | @par dep l t l' h _ ih =>
    intro _
    have := (ih (by show 1 ≤ 4; decide)).1
    have q : ((if ([41] : List Nat) = [40] then 1 else 0) + nOpen l') + cnt t ((1 : Nat) : Int) ≤ nOpen l := this
    rw [if_neg (by decide)] at q
    have e : ((1 : Nat) : Int) = 1 := rfl
    rw [e] at q
    have := cnt_four (t := t)
    show nOpen l' + cnt t 4 ≤ (if ([40] : List Nat) = [40] then 1 else 0) + nOpen l
    lia
  | @level least dep l t l' r _ _ ih1 ih2 =>
    intro o
    have a := ih1 trivial
    have b := ih2 o
    cases r with
    | none => trivial
    | some q =>
      obtain ⟨u, l2⟩ := q
      obtain ⟨b1, b2⟩ := b
      have a' : nOpen l' + cnt t 4 ≤ nOpen l := a
      have o' : least ≤ 4 := o
      have := b1 (cnt t 4) (cnt_mono (by lia)) (fun _ => cnt_mono (by have := lev_le l'; lia))
      exact ⟨by show nOpen l2 + cnt u least ≤ nOpen l; lia, b2⟩
  | @stop least dep t l h =>
    intro o
    exact ⟨fun b h1 h2 => by show nOpen l + cnt t least ≤ b + nOpen l; lia, h⟩
  | @more least dep t w l u l' r lv h1 h2 h3 _ _ ih1 ih2 =>
    intro o
    obtain ⟨a1, a2⟩ := ih1 (lv_le h1)
    have b := ih2 o
    cases r with
    | none => trivial
    | some q =>
      obtain ⟨v, l2⟩ := q
      obtain ⟨b1, b2⟩ := b
      refine ⟨fun b c1 c2 => ?_, b2⟩
      have hw : w ≠ [40] := lev_ne h1 (by lia)
      have e : lev (.mark w :: l) = levelOf w := rfl
      have c3 := c2 (by rw [e, h1]; lia)
      rw [e] at c3
      have a1' : nOpen l' + cnt u (levelOf w + 1) ≤ nOpen l := by
        rw [h1]; exact a1
      have bin : ∀ c : Int, c ≤ levelOf w → cnt (.bin w t u) c = cnt t (levelOf w) + cnt u (levelOf w + 1) := fun c hc => by
        show cnt t _ + cnt u _ + (if levelOf w < c then 1 else 0) = _
        rw [if_neg (by lia)]; rfl
      have z := b1 (b + (nOpen l - nOpen l')) (by rw [bin least (by rw [h1]; lia)]; lia) (fun _ => by
        have a2' : lev l' < ((lv + 1 : Nat) : Int) := a2
        rw [bin (lev l') (by rw [h1]; lia)]; lia)
      show nOpen l2 + cnt v least ≤ b + ((if w = [40] then 1 else 0) + nOpen l)
      rw [if_neg hw]
      lia
end Mine
end
section
namespace Mine
variable {d : Nat} {ρ : Loc} {σ : Store}

theorem rest_of {l : List Lx} {toks : List PV} (h : ToksOf l toks) (col : Int) : Rest l (toks ++ [tokV kEnd [] (.str []) col]) := by
  induction h with
  | nil => exact .nil
  | cons _ ih => exact .cons ih
/-- a text that the reader of a line takes whole -/
structure Good1 (t : List Nat) (its : List Item) (tb tl : List Nat) : Prop where
  eq : t = flatI its ++ (tb ++ tl)
  len : t.length ≤ 60000
  many : its.length ≤ 60000
  blank : ∀ c ∈ tb, isBlank c = true
  tail : ∀ c, tl[0]? = some c → isBlank c = false
  done : restDone tl = true
  ok : ItsOk (tb ++ tl) its
theorem word_le : ∀ {its : List Item} {x : Lx}, x ∈ its.map (·.2) → x.word.length ≤ (flatI its).length := by
  intro its
  induction its with
  | nil => intro x h; cases h
  | cons i r ih =>
    intro x h
    obtain ⟨b, y⟩ := i
    rcases List.mem_cons.mp h with rfl | h
    · simp [flatI]; lia
    · have := ih h
      simp [flatI]; lia
/-- the cursor at the start of a text -/
theorem ev_cursor {t tb tl : List Nat} {its : List Item} (g : Good1 t its tb tl) : ∃ n toks, CurAt (σ ++ [rd t n, .lst toks, cur (σ.length + 1) 0]) (σ.length + 2) (σ.length + 1) 0 toks (its.map (·.2)) ∧
    ev (d + 6) (.e (.mk 3 [(.call 13 [(.loc 0), (.int 1)])]) [some (.str t), none, none] σ) (.v (.ref (σ.length + 2)) (σ ++ [rd t n, .lst toks, cur (σ.length + 1) 0])) := by
  obtain ⟨toks, n, col, h1, h2⟩ := ev_lineTokens (d := d) (σ := σ) g.eq (by have := g.len; lia) (by have := g.many; lia) g.blank g.tail g.done g.ok
  refine ⟨n, toks ++ [tokV kEnd [] (.str []) col], ⟨?_, ?_, by lia, ?_, ?_, fun x hx => ?_⟩, ?_⟩
  · rw [List.getElem?_append_right (by lia), show σ.length + 2 - σ.length = 2 from by lia]; rfl
  · rw [List.getElem?_append_right (by lia), show σ.length + 1 - σ.length = 1 from by lia]; rfl
  · rw [List.drop_zero]; exact rest_of h1 col
  · have : ∀ {l : List Lx} {r : List PV}, ToksOf l r → r.length = l.length := by
      intro l r h
      induction h with
      | nil => rfl
      | cons _ ih => simp [ih]
    have e := this h1
    have := g.many
    simp [e]; lia
  · have := word_le hx
    have e := congrArg List.length g.eq
    have := g.len
    simp at e; lia
  · refine is_mk (es_1 (p := .ref (σ.length + 1)) (σ' := σ ++ [rd t n, .lst (toks ++ [tokV kEnd [] (.str []) col])]) ?_) ?_; rotate_left
    · show some (Out.v (.ref (σ ++ [rd t n, .lst (toks ++ [tokV kEnd [] (.str []) col])]).length) ((σ ++ [rd t n, .lst (toks ++ [tokV kEnd [] (.str []) col])]) ++ [.inst 3 [(15, .ref (σ.length + 1)), (3, .int 0)]])) = _
      rw [List.length_append, List.append_assoc]
      rfl
    · refine is_call (es_c (is_loc (v := .str t) rfl) (es_1 ev_e_int)) ?_
      exact h2
end Mine
end
section
namespace Mine
variable {d : Nat} {ρ : Loc} {σ : Store}

theorem kd_end (x : Lx) : (x.kd == kEnd) = false := by
  cases x with
  | name w => exact (by decide : (kName == kEnd) = false)
  | num w => exact (by decide : (kNumber == kEnd) = false)
  | mark w => exact (by decide : (kSign == kEnd) = false)
theorem need10 : need (.level 1 0) = 101 := by decide
theorem ev_expr {c kk n : Nat} {toks : List PV} {l : List Lx} {r : Option (T × List Lx)} (hr : R (.level 1 0) l r) (h : CurAt σ c kk n toks l) (hd : 101 ≤ d) : match r with
    | some (t, l') => ∃ m, CurAt (σ.set c (cur kk m)) c kk m toks l' ∧ ev (d + 1) (.call 32 [.ref c] σ) (.v (nv t) (σ.set c (cur kk m)))
    | none => ∃ σ', ev (d + 1) (.call 32 [.ref c] σ) (.exc σ') := by
  have s := sp_of hr (by show 1 ≤ 4; decide) d σ c kk n toks (by rw [need10]; exact hd) h
  have e : (∀ {oo}, ev d (.call 31 [.ref c, .int ((1 : Nat) : Int), .int ((0 : Nat) : Int)] σ) oo → ev d (.e (.call 31 [(.loc 0), (.int 1), (.int 0)]) [some (.ref c)] σ) oo) := by
    exact is_call (es_c (is_loc (v := .ref c) rfl) (es_c ev_e_int (es_1 ev_e_int)))
  cases r with
  | none =>
    obtain ⟨σ', s⟩ := s
    refine ⟨σ', do_callx (fn := ⟨1, 1, b32⟩) rfl rfl ?_⟩
    show ev d (.ss b32 [some (.ref c)] σ) _
    exact ss_excd (do_retx (e s))
  | some q =>
    obtain ⟨t, l'⟩ := q
    obtain ⟨m, s1, s2⟩ := s
    refine ⟨m, s1, do_call (fn := ⟨1, 1, b32⟩) (ρ' := [some (.ref c)]) rfl rfl ?_⟩
    show ev d (.ss b32 [some (.ref c)] σ) _
    exact ss_ret1 (e s2)

/-- expr_of on a text: the tree where all is read, an error elsewhere -/
theorem ev_exprOf {t tb tl : List Nat} {its : List Item} {r : Option (T × List Lx)} (g : Good1 t its tb tl) (hr : R (.level 1 0) (its.map (·.2)) r) (hd : 110 ≤ d) : match r with
    | some (u, []) => ∃ τ, σ <+: τ ∧ ev (d + 1) (.call 33 [.str t] σ) (.v (nv u) τ)
    | _ => ∃ τ, ev (d + 1) (.call 33 [.str t] σ) (.exc τ) := by
  obtain ⟨n, toks, hc, h1⟩ := ev_cursor (d := d - 6) (σ := σ) g
  rw [show d - 6 + 6 = d from by lia] at h1
  have h2 := ev_expr (d := d - 1) hr hc (by lia)
  rw [show d - 1 + 1 = d from by lia] at h2
  have pre : ∀ o, ev d (.ss [.asg 2 (.call 32 [(.loc 1)]), .expr (.meth (.loc 1) 31 []), .ret (.loc 2)] [some (.str t), some (.ref (σ.length + 2)), none] (σ ++ [rd t n, .lst toks, cur (σ.length + 1) 0])) o → ev d (.ss b33 [some (.str t), none, none] σ) o := fun o ho => by
    refine ss_next (do_asg h1) ?_
    exact ho
  have e : (∀ {oo}, ev d (.call 32 [.ref (σ.length + 2)] (σ ++ [rd t n, .lst toks, cur (σ.length + 1) 0])) oo → ev d (.e (.call 32 [(.loc 1)]) [some (.str t), some (.ref (σ.length + 2)), none] (σ ++ [rd t n, .lst toks, cur (σ.length + 1) 0])) oo) := by
    exact is_call (es_1 (is_loc (v := .ref (σ.length + 2)) rfl))
  cases r with
  | none =>
    obtain ⟨τ, h2⟩ := h2
    exact ⟨τ, do_callx (fn := ⟨1, 3, b33⟩) rfl rfl (pre _ (ss_excd (do_asgx (e h2))))⟩
  | some q =>
    obtain ⟨u, l'⟩ := q
    obtain ⟨m, c2, h2⟩ := h2
    have st : ev d (.s (.asg 2 (.call 32 [(.loc 1)])) [some (.str t), some (.ref (σ.length + 2)), none] (σ ++ [rd t n, .lst toks, cur (σ.length + 1) 0])) (.fl .next [some (.str t), some (.ref (σ.length + 2)), some (nv u)] ((σ ++ [rd t n, .lst toks, cur (σ.length + 1) 0]).set (σ.length + 2) (cur (σ.length + 1) m))) := do_asg (e h2)
    cases l' with
    | nil =>
      obtain ⟨col, a⟩ := c2.atEnd
      refine ⟨_, ?_, do_call (fn := ⟨1, 3, b33⟩) (ρ' := [some (.str t), some (.ref (σ.length + 2)), some (nv u)]) (σ' := (σ ++ [rd t n, .lst toks, cur (σ.length + 1) 0]).set (σ.length + 2) (cur (σ.length + 1) m)) rfl rfl (pre _ ?_)⟩
      · rw [List.set_append_right _ _ (by lia)]
        exact List.prefix_append _ _
      · refine ss_next st ?_
        refine ss_next (do_expr (v := .none) (σ' := (σ ++ [rd t n, .lst toks, cur (σ.length + 1) 0]).set (σ.length + 2) (cur (σ.length + 1) m)) ?_) ?_; rotate_left
        · exact ss_ret1 (is_loc rfl)
        · refine is_meth (is_loc rfl) (by rw [cur_meth a.cur]; rfl) ev_es_nil ?_
          have := ev_needEnd (d := d - 3) a
          rw [show d - 3 + 3 = d from by lia] at this
          exact this
    | cons x l' =>
      obtain ⟨col, a⟩ := c2.at
      refine ⟨(σ ++ [rd t n, .lst toks, cur (σ.length + 1) 0]).set (σ.length + 2) (cur (σ.length + 1) m), do_callx (fn := ⟨1, 3, b33⟩) rfl rfl (pre _ ?_)⟩
      refine ss_next st ?_
      refine ss_excd (do_exprx ?_)
      refine is_meth (is_loc rfl) (by rw [cur_meth a.cur]; rfl) ev_es_nil ?_
      have := ev_needEndx (d := d - 3) a (kd_end x) (c2.small x (.head _))
      rw [show d - 3 + 3 = d from by lia] at this
      exact this
end Mine
end
section
namespace Mine
variable {d : Nat} {ρ : Loc} {σ : Store}

noncomputable def spine : T → List T
  | .bin s l r => spine l ++ [.bin s l r]
  | _ => []
noncomputable def core : T → T
  | .bin _ l _ => core l
  | t => t
noncomputable def kindOf : T → List Nat
  | .num _ => kNumber
  | .sym _ => [115, 121, 109, 98, 111, 108]
  | .here => [104, 101, 114, 101]
  | .un _ _ => [117, 110, 97, 114, 121]
  | .bin _ _ _ => [98, 105, 110, 97, 114, 121]
theorem nv_kind (t : T) : attrV σ (nv t) 0 = some (.str (kindOf t)) := by cases t <;> rfl
noncomputable def isBin : T → Bool
  | .bin _ _ _ => true
  | _ => false
theorem kind_bin (t : T) : (kindOf t == [98, 105, 110, 97, 114, 121]) = isBin t := by cases t <;> rfl
theorem spine_loop {f : Nat} {x : PV} : ∀ (t : T) (acc : List PV) (σ : Store), σ[f]? = some (.lst acc) → acc.length + (spine t).length ≤ 65536 →
    ev d (.whl (.cmp (.attr (.loc 2) 0) .eq (.str [98, 105, 110, 97, 114, 121])) [.expr (.meth (.loc 1) 14 [(.loc 2)]), .asg 2 (.attr (.loc 2) 27)] [some x, some (.ref f), some (nv t)] σ)
      (.fl .next [some x, some (.ref f), some (nv (core t))] (σ.set f (.lst (acc ++ (spine t).reverse.map nv)))) := by
  intro t
  have stop : ∀ (t : T) (acc : List PV) (σ : Store), isBin t = false → σ[f]? = some (.lst acc) →
      ev d (.whl (.cmp (.attr (.loc 2) 0) .eq (.str [98, 105, 110, 97, 114, 121])) [.expr (.meth (.loc 1) 14 [(.loc 2)]), .asg 2 (.attr (.loc 2) 27)] [some x, some (.ref f), some (nv t)] σ) (.fl .next [some x, some (.ref f), some (nv t)] (σ.set f (.lst (acc ++ [])))) := fun t acc σ hb hf => by
    rw [List.append_nil, set_same hf]
    refine whl_end ?_
    rw [← hb, ← kind_bin]
    exact is_cmp (is_attr (is_loc rfl) (nv_kind t)) ev_e_str rfl
  induction t with
  | bin s l r ihl ihr =>
    intro acc σ hf hz
    have hz' : acc.length + ((spine l).length + 1) ≤ 65536 := by simpa [spine] using hz
    have hf' : (σ.set f (.lst (acc ++ [nv (.bin s l r)])))[f]? = some (.lst (acc ++ [nv (.bin s l r)])) := get_set ⟨_, hf⟩
    refine whl_turn (σ' := σ) (σ'' := σ.set f (.lst (acc ++ [nv (.bin s l r)]))) (ρ' := [some x, some (.ref f), some (nv l)]) ?_ ?_ ?_; rotate_left 2
    · have := ihl (acc ++ [nv (.bin s l r)]) _ hf' (by simp; lia)
      refine ev_to this ?_
      rw [List.set_set]
      simp [spine, core]
    · exact is_cmp (is_attr (is_loc rfl) (nv_kind (.bin s l r))) ev_e_str rfl
    · refine ss_next (do_expr (is_app (i := f) (p := .ref f) (ps := [nv (.bin s l r)]) (σ' := σ) (σ'' := σ) (σ₃ := σ.set f (.lst (acc ++ [nv (.bin s l r)]))) (is_loc rfl) (by simp [methK, hf]) (es_1 (is_loc rfl)) ?_)) ?_; rotate_left
      · refine ss_next (do_asg (v := nv l) (is_attr (p := nv (.bin s l r)) (is_loc rfl) rfl)) ?_
        exact ev_ss_nil
      · simp only [lstOp, hf]
        rw [if_pos (by lia)]
  | num n => exact fun acc σ hf _ => stop _ acc σ rfl hf
  | sym n => exact fun acc σ hf _ => stop _ acc σ rfl hf
  | here => exact fun acc σ hf _ => stop _ acc σ rfl hf
  | un s t _ => exact fun acc σ hf _ => stop _ acc σ rfl hf
end Mine
end
section
namespace Mine
variable {d : Nat} {ρ : Loc} {σ : Store}

theorem last_get (x : MO) : (σ ++ [x])[σ.length]? = some x := by simp
theorem last_set (x z : MO) : (σ ++ [x]).set σ.length z = σ ++ [z] := by
  rw [List.set_append_right _ _ (Nat.le_refl _), Nat.sub_self]; rfl
theorem ev_leftSpine (t : T) (hz : (spine t).length ≤ 65536) : ev (d + 1) (.call 27 [nv t] σ) (.v (.tup [nv (core t), .ref σ.length]) (σ ++ [.lst ((spine t).map nv)])) := by
  have h := spine_loop (d := d) (f := σ.length) (x := nv t) t [] (σ ++ [.lst []]) (last_get _) (by simpa using hz)
  rw [last_set, List.nil_append] at h
  refine do_call (fn := ⟨1, 3, b27⟩) rfl rfl (ρ' := [some (nv t), some (.ref σ.length), some (nv (core t))]) ?_
  show ev d (.ss b27 [some (nv t), none, none] σ) _
  refine ss_next (x := .asg 1 _) (ρ' := [some (nv t), some (.ref σ.length), none]) (σ' := σ ++ [.lst []]) (do_asg (v := .ref σ.length) (is_lst ev_es_nil (Nat.zero_le _))) ?_
  refine ss_next (x := .asg 2 _) (ρ' := [some (nv t), some (.ref σ.length), some (nv t)]) (σ' := σ ++ [.lst []]) (do_asg (is_loc rfl)) ?_
  refine ss_next (x := .whl _ _) (by refine do_whl ?_; exact h) ?_
  refine ss_next (x := .expr _) (ρ' := [some (nv t), some (.ref σ.length), some (nv (core t))]) (σ' := σ ++ [.lst ((spine t).map nv)]) ?_ ?_; rotate_left
  · refine ss_ret1 ?_
    exact is_tup (es_c (is_loc (v := nv (core t)) rfl) (es_1 (is_loc (v := .ref σ.length) rfl))) (Nat.le_of_ble_eq_true rfl)
  · refine do_expr (is_rev (i := σ.length) (is_loc rfl) (by simp [methK]) ev_es_nil ?_)
    simp only [lstOp, last_get]
    rw [if_pos (by simpa using hz), last_set]
    simp
end Mine
end
section
namespace Mine
variable {d : Nat} {ρ : Loc} {σ : Store}

noncomputable def ht : T → Nat
  | .un _ t => ht t + 1
  | .bin _ l r => max (ht l) (ht r) + 1
  | _ => 1
noncomputable def toldF : T → Nat
  | .num _ => 23
  | .sym _ => 24
  | .here => 22
  | .un _ _ => 25
  | .bin _ _ _ => 26
theorem nv_told (t : T) : methK σ (nv t) 25 = some (.call (toldF t)) := by cases t <;> rfl
/-- told, on a tree -/
noncomputable def ToldOk (t : T) : Prop := ∀ (dd : Nat) (σ : Store), ht t + 1 ≤ dd → ∃ τ, σ <+: τ ∧ ev dd (.call (toldF t) [nv t] σ) (.v (tv t) τ)
theorem told_num (n : Int) : ToldOk (.num n) := by
  intro dd σ h
  obtain ⟨d, rfl⟩ : ∃ d, dd = d + 1 := ⟨dd - 1, by lia⟩
  refine ⟨σ, List.prefix_refl _, do_call (fn := ⟨1, 1, b23⟩) (ρ' := [some (nv (.num n))]) rfl rfl ?_⟩
  show ev d (.ss b23 [some (nv (.num n))] σ) _
  refine ss_ret1 ?_
  exact is_tup (es_c ev_e_str (es_1 (is_attr (p := nv (.num n)) (v := .int n) (is_loc rfl) rfl))) (Nat.le_of_ble_eq_true rfl)
theorem told_sym (s : List Nat) : ToldOk (.sym s) := by
  intro dd σ h
  obtain ⟨d, rfl⟩ : ∃ d, dd = d + 1 := ⟨dd - 1, by lia⟩
  refine ⟨σ, List.prefix_refl _, do_call (fn := ⟨1, 1, b24⟩) (ρ' := [some (nv (.sym s))]) rfl rfl ?_⟩
  show ev d (.ss b24 [some (nv (.sym s))] σ) _
  refine ss_ret1 ?_
  exact is_tup (es_c ev_e_str (es_1 (is_attr (p := nv (.sym s)) (v := .str s) (is_loc rfl) rfl))) (Nat.le_of_ble_eq_true rfl)
theorem told_here : ToldOk .here := by
  intro dd σ h
  obtain ⟨d, rfl⟩ : ∃ d, dd = d + 1 := ⟨dd - 1, by lia⟩
  refine ⟨σ, List.prefix_refl _, do_call (fn := ⟨1, 1, b22⟩) (ρ' := [some (nv .here)]) rfl rfl ?_⟩
  show ev d (.ss b22 [some (nv .here)] σ) _
  refine ss_ret1 ?_
  exact is_tup (es_1 (is_attr (p := nv .here) (v := .str [104, 101, 114, 101]) (is_loc rfl) rfl)) (Nat.le_of_ble_eq_true rfl)
theorem told_un (s : List Nat) (t : T) (ih : ToldOk t) : ToldOk (.un s t) := by
  intro dd σ h
  obtain ⟨d, rfl⟩ : ∃ d, dd = d + 1 := ⟨dd - 1, by lia⟩
  obtain ⟨τ, h1, h2⟩ := ih d σ (by simp only [ht] at h; lia)
  refine ⟨τ, h1, do_call (fn := ⟨1, 1, b25⟩) (ρ' := [some (nv (.un s t))]) rfl rfl ?_⟩
  show ev d (.ss b25 [some (nv (.un s t))] σ) _
  refine ss_ret1 ?_
  refine is_tup (es_c ev_e_str (es_c (is_attr (p := nv (.un s t)) (v := .str s) (is_loc rfl) rfl) (es_1 (p := tv t) (σ' := τ) ?_))) (Nat.le_of_ble_eq_true rfl)
  · refine is_meth (is_attr (p := nv (.un s t)) (v := nv t) (is_loc rfl) rfl) (nv_told t) ev_es_nil ?_
    exact h2
end Mine
end
section
namespace Mine
variable {d : Nat} {ρ : Loc} {σ : Store}

theorem pre_get {τ : Store} {i : Nat} {o : MO} (h : σ <+: τ) (e : σ[i]? = some o) : τ[i]? = some o := by
  obtain ⟨r, rfl⟩ := h
  rw [List.getElem?_append_left (List.getElem?_eq_some_iff.mp e).1]; exact e
noncomputable def toldBody : List S := [.asg 1 (.tup [(.str [98, 105, 110, 97, 114, 121]), (.attr (.loc 2) 23), (.loc 1), (.meth (.attr (.loc 2) 26) 25 [])])]
noncomputable abbrev tfr (x : PV) (w : PV) (p : Option PV) (c : PV) (i : Nat) : Loc := [some x, some w, p, some c, some (.ref i)]
/-- every tree hung on the spine tells -/
noncomputable def Hung : T → Prop
  | .bin _ l r => Hung l ∧ ToldOk r
  | _ => True
theorem told_loop {i : Nat} {x c : PV} : ∀ (t : T) (rest : List PV) (σ : Store) (p : Option PV), σ[i]? = some (.lst ((spine t).map nv ++ rest)) → Hung t → ht t ≤ d →
    ∃ τ p', σ <+: τ ∧ (∀ {oo}, ev d (.fr 2 (.lst i (spine t).length) toldBody (tfr x (tv t) p' c i) τ) oo → ev d (.fr 2 (.lst i 0) toldBody (tfr x (tv (core t)) p c i) σ) oo) := by
  intro t
  induction t with
  | bin s l r ihl _ =>
    intro rest σ p hi hh hd
    have hd' : max (ht l) (ht r) + 1 ≤ d := hd
    obtain ⟨τ, p', h1, h2⟩ := ihl (nv (.bin s l r) :: rest) σ p (by rw [hi]; simp [spine]) hh.1 (by lia)
    have hi' := pre_get h1 hi
    obtain ⟨τ', h3, h4⟩ := hh.2 d τ (by lia)
    refine ⟨τ', some (nv (.bin s l r)), h1.trans h3, ?_⟩
    intro o hk
    rw [show (spine (.bin s l r)).length = (spine l).length + 1 from by simp [spine]] at hk
    refine h2 ?_
    refine fr_lst (v := nv (.bin s l r)) (ρ' := tfr x (tv (.bin s l r)) (some (nv (.bin s l r))) c i) (σ' := τ') hi' ?_ ?_ hk
    · simp [spine]
    · unfold toldBody
      refine ss_next (x := .asg 1 _) (ρ' := tfr x (tv (.bin s l r)) (some (nv (.bin s l r))) c i) (σ' := τ') ?_ ?_; rotate_left
      · exact ev_ss_nil
      · refine do_asg (v := tv (.bin s l r)) ?_
        refine is_tup (es_c ev_e_str (es_c (is_attr (p := nv (.bin s l r)) (v := .str s) (is_loc rfl) rfl) (es_c (is_loc (v := tv l) rfl) (es_1 (p := tv r) (σ' := τ') ?_)))) (Nat.le_of_ble_eq_true rfl)
        · refine is_meth (is_attr (p := nv (.bin s l r)) (v := nv r) (is_loc rfl) rfl) (nv_told r) ev_es_nil ?_
          exact h4
  | num n => exact fun rest σ p _ _ _ => ⟨σ, p, List.prefix_refl _, id⟩
  | sym n => exact fun rest σ p _ _ _ => ⟨σ, p, List.prefix_refl _, id⟩
  | here => exact fun rest σ p _ _ _ => ⟨σ, p, List.prefix_refl _, id⟩
  | un s t _ => exact fun rest σ p _ _ _ => ⟨σ, p, List.prefix_refl _, id⟩
end Mine
end
section
namespace Mine
variable {d : Nat} {ρ : Loc} {σ : Store}

theorem ht_core (t : T) : ht (core t) ≤ ht t := by
  induction t with
  | bin s l r ihl _ => show ht (core l) ≤ max (ht l) (ht r) + 1; lia
  | _ => exact Nat.le_refl _
theorem spine_ht (t : T) : (spine t).length ≤ ht t := by
  induction t with
  | bin s l r ihl _ => show (spine l ++ [_]).length ≤ max (ht l) (ht r) + 1; rw [List.length_append]; simp; lia
  | _ => exact Nat.zero_le _
theorem told_bin (s : List Nat) (l r : T) (hc : ToldOk (core l)) (hh : Hung (.bin s l r)) (hz : ht (.bin s l r) ≤ 60000) : ToldOk (.bin s l r) := by
  intro dd σ h
  obtain ⟨d, rfl⟩ : ∃ d, dd = d + 2 := ⟨dd - 2, by simp only [ht] at h; lia⟩
  have hsp := spine_ht (.bin s l r)
  have hl := ev_leftSpine (d := d) (σ := σ) (.bin s l r) (by lia)
  have hx : max (ht l) (ht r) + 1 + 1 ≤ d + 2 := h
  have hcore : ht (core l) + 1 ≤ d + 1 := by
    have := ht_core l
    lia
  obtain ⟨τ, h1, h2⟩ := hc (d + 1) (σ ++ [.lst ((spine (.bin s l r)).map nv)]) hcore
  have hi : τ[σ.length]? = some (.lst ((spine (.bin s l r)).map nv ++ [])) := by rw [List.append_nil]; exact pre_get h1 (last_get _)
  obtain ⟨τ', p', h3, h4⟩ := told_loop (d := d + 1) (x := nv (.bin s l r)) (c := nv (core l)) (.bin s l r) [] τ none hi hh (by show max (ht l) (ht r) + 1 ≤ d + 1; lia)
  refine ⟨τ', (List.prefix_append _ _).trans (h1.trans h3), do_call (fn := ⟨1, 5, b26⟩) (ρ' := tfr (nv (.bin s l r)) (tv (.bin s l r)) p' (nv (core l)) σ.length) rfl rfl ?_⟩
  show ev (d + 1) (.ss b26 [some (nv (.bin s l r)), none, none, none, none] σ) _
  refine ss_next (x := .asg2 3 4 _) (ρ' := [some (nv (.bin s l r)), none, none, some (nv (core l)), some (.ref σ.length)]) (σ' := σ ++ [.lst ((spine (.bin s l r)).map nv)]) (do_asg2 (by refine is_call (es_1 (is_loc (v := nv (.bin s l r)) rfl)) ?_; exact hl)) ?_
  refine ss_next (x := .asg 1 _) (ρ' := tfr (nv (.bin s l r)) (tv (core l)) none (nv (core l)) σ.length) (σ' := τ) (do_asg (by refine is_meth (is_loc (v := nv (core l)) rfl) (nv_told (core l)) ev_es_nil ?_; exact h2)) ?_
  refine ss_next (x := .forr _ _ _) (ρ' := tfr (nv (.bin s l r)) (tv (.bin s l r)) p' (nv (core l)) σ.length) (σ' := τ') ?_ ?_; rotate_left
  · exact ss_ret1 (is_loc rfl)
  · have hs : srcOf τ (.ref σ.length) = some (.lst σ.length 0) := by simp only [srcOf, hi]
    refine do_forr (v := .ref σ.length) (σ' := τ) (src := .lst σ.length 0) (is_loc rfl) hs ?_
    have hi' := pre_get h3 hi
    exact h4 (fr_lend hi' (by simp))
theorem told_all : ∀ (n : Nat) (t : T), ht t ≤ n → n ≤ 60000 → ToldOk t ∧ ToldOk (core t) ∧ Hung t := by
  intro n t
  induction t with
  | num k => exact fun _ _ => ⟨told_num k, told_num k, trivial⟩
  | sym k => exact fun _ _ => ⟨told_sym k, told_sym k, trivial⟩
  | here => exact fun _ _ => ⟨told_here, told_here, trivial⟩
  | un s t ih =>
    intro h hn
    have := (ih (by simp only [ht] at h; lia) hn).1
    exact ⟨told_un s t this, told_un s t this, trivial⟩
  | bin s l r ihl ihr =>
    intro h hn
    have hl := ihl (by simp only [ht] at h; lia) hn
    have hr := ihr (by simp only [ht] at h; lia) hn
    have hh : Hung (.bin s l r) := ⟨hl.2.2, hr.1⟩
    exact ⟨told_bin s l r hl.2.1 hh (by lia), hl.2.1, hh⟩
end Mine
end
section
namespace Mine
variable {d : Nat} {ρ : Loc} {σ : Store}

noncomputable def dec (i : Int) : List Nat := (toString i).toList.map Char.toNat
noncomputable def textI (s tl tr : List Nat) : List Nat := tl ++ [32] ++ s ++ [32] ++ tr
/-- the text that the law lays -/
noncomputable def text : T → Int → List Nat
  | .num n, _ => dec n
  | .sym s, _ => s
  | .here, _ => [46]
  | .un s t, _ => s ++ text t 4
  | .bin s l r, c => if levelOf s < c then [40] ++ textI s (text l (levelOf s)) (text r (levelOf s + 1)) ++ [41] else textI s (text l (levelOf s)) (text r (levelOf s + 1))
/-- numbers are within reach -/
noncomputable def Nums : T → Prop
  | .num n => 0 ≤ n ∧ n < 18446744073709551616
  | .un _ t => Nums t
  | .bin _ l r => Nums l ∧ Nums r
  | _ => True
noncomputable def lvT : T → Int
  | .bin s _ _ => levelOf s
  | _ => 4
theorem text_at (t : T) {c : Int} (hc : c ≤ 4) : text t c = if lvT t < c then [40] ++ text t 0 ++ [41] else text t 0 := by
  cases t with
  | bin s l r =>
    show (if levelOf s < c then _ else _) = if levelOf s < c then [40] ++ (if levelOf s < 0 then _ else _) ++ [41] else (if levelOf s < 0 then _ else _)
    rw [if_neg (c := levelOf s < 0) (by have := level_nn s; lia)]
  | num n => rw [if_neg (show ¬ lvT (.num n) < c from by show ¬ (4 : Int) < c; lia)]; rfl
  | sym n => rw [if_neg (show ¬ lvT (.sym n) < c from by show ¬ (4 : Int) < c; lia)]; rfl
  | here => rw [if_neg (show ¬ lvT .here < c from by show ¬ (4 : Int) < c; lia)]; rfl
  | un s t => rw [if_neg (show ¬ lvT (.un s t) < c from by show ¬ (4 : Int) < c; lia)]; rfl
theorem text_bin0 (s : List Nat) (l r : T) : text (.bin s l r) 0 = textI s (text l (levelOf s)) (text r (levelOf s + 1)) := by
  show (if levelOf s < 0 then _ else _) = _
  rw [if_neg (by have := level_nn s; lia)]
theorem text_len0 (t : T) (c : Int) : (text t 0).length ≤ (text t c).length := by
  cases t with
  | bin s l r =>
    rw [text_bin0]
    show _ ≤ (if levelOf s < c then _ else _ : List Nat).length
    split
    · simp; lia
    · exact Nat.le_refl _
  | _ => exact Nat.le_refl _
theorem is_adds {x y : E} {a b : List Nat} {σ' σ'' : Store} (h1 : ev d (.e x ρ σ) (.v (.str a) σ')) (h2 : ev d (.e y ρ σ') (.v (.str b) σ'')) (hz : a.length + b.length ≤ 65536) : ev d (.e (.bop .add x y) ρ σ) (.v (.str (a ++ b)) σ'') :=
  is_bop h1 h2 (adds a b hz)

noncomputable def ShowOk (t : T) : Prop := ∀ (dd : Nat) (σ : Store), 3 * ht t + 3 ≤ dd → ∃ τ, σ <+: τ ∧ ev dd (.call 36 [nv t] σ) (.v (.str (text t 0)) τ)
noncomputable def BrOk (t : T) : Prop := ∀ (least : Int) (dd : Nat) (σ : Store), least ≤ 4 → 3 * ht t + 4 ≤ dd → ∃ τ, σ <+: τ ∧ ev dd (.call 34 [nv t, .int least] σ) (.v (.str (text t least)) τ)
noncomputable def LeafOk (t : T) : Prop := ∀ (dd : Nat) (σ : Store), 3 * ht t + 2 ≤ dd → ∃ τ, σ <+: τ ∧ ev dd (.call 35 [nv t] σ) (.v (.str (text t 0)) τ)
theorem nv_sign (s : List Nat) (l r : T) : attrV σ (nv (.bin s l r)) 23 = some (.str s) := rfl
theorem br_of {t : T} (hs : ShowOk t) (hz : (text t 0).length ≤ 60000) : BrOk t := by
  intro least dd σ hc hd
  obtain ⟨d, rfl⟩ : ∃ d, dd = d + 2 := ⟨dd - 2, by lia⟩
  obtain ⟨τ, h1, h2⟩ := hs (d + 1) σ (by lia)
  have call : ev (d + 1) (.e (.call 36 [(.loc 0)]) [some (nv t), some (.int least)] σ) (.v (.str (text t 0)) τ) := by
    refine is_call (es_1 (is_loc (v := nv t) rfl)) ?_; exact h2
  have c0 : ev (d + 1) (.e (.cmp (.attr (.loc 0) 0) .eq (.str [98, 105, 110, 97, 114, 121])) [some (nv t), some (.int least)] σ) (.v (.bool (isBin t)) σ) := by
    rw [← kind_bin]; exact is_cmp (is_attr (is_loc rfl) (nv_kind t)) ev_e_str rfl
  have cond : ev (d + 1) (.e (.and [(.cmp (.attr (.loc 0) 0) .eq (.str [98, 105, 110, 97, 114, 121])), (.cmp (.call 28 [(.attr (.loc 0) 23)]) .lt (.loc 1))]) [some (nv t), some (.int least)] σ) (.v (.bool (decide (lvT t < least))) σ) := by
    have lb : false = decide ((4 : Int) < least) := (decide_eq_false (by lia)).symm
    refine ev_e_and ?_
    cases t with
    | bin s l r =>
      have := and_cons (σ₁ := σ) c0 (bools_one (k := true) (is_cmp (o := .lt) (q := .int least) (p := .int (levelOf s)) (b := decide (levelOf s < least)) (σ' := σ) (σ'' := σ) (x := .call 28 [(.attr (.loc 0) 23)]) (y := .loc 1) (by
        refine is_call (es_1 (is_attr (p := nv (.bin s l r)) (is_loc rfl) (nv_sign s l r))) ?_; exact ev_level s) (is_loc rfl) rfl))
      exact this
    | num n => exact ev_to (bools_stop c0 rfl) (congrArg (fun b => Out.v (PV.bool b) σ) lb)
    | sym n => exact ev_to (bools_stop c0 rfl) (congrArg (fun b => Out.v (PV.bool b) σ) lb)
    | here => exact ev_to (bools_stop c0 rfl) (congrArg (fun b => Out.v (PV.bool b) σ) lb)
    | un s t => exact ev_to (bools_stop c0 rfl) (congrArg (fun b => Out.v (PV.bool b) σ) lb)
  refine ⟨τ, h1, do_call (fn := ⟨2, 2, b34⟩) (ρ' := [some (nv t), some (.int least)]) rfl rfl ?_⟩
  show ev (d + 1) (.ss b34 [some (nv t), some (.int least)] σ) _
  rw [text_at t hc]
  by_cases hl : lvT t < least
  · rw [if_pos hl]
    rw [decide_eq_true hl] at cond
    refine ss_take cond ?_
    show ev (d + 1) (.ss [.ret (.bop .add (.bop .add (.str [40]) (.call 36 [(.loc 0)])) (.str [41]))] _ σ) _
    refine ss_ret1 (is_adds (is_adds ev_e_str call ?_) ev_e_str ?_)
    · simp; lia
    · simp; lia
  · rw [if_neg hl]
    rw [decide_eq_false hl] at cond
    refine ss_skip cond ?_
    exact ss_ret1 call
end Mine
end
section
namespace Mine
variable {d : Nat} {ρ : Loc} {σ : Store}

theorem leaf_kind (t : T) (k : List Nat) : ev d (.e (.cmp (.attr (.loc 0) 0) .eq (.str k)) [some (nv t)] σ) (.v (.bool (kindOf t == k)) σ) :=
  is_cmp (is_attr (is_loc rfl) (nv_kind t)) ev_e_str rfl
theorem leaf_num (n : Int) (hn : 0 ≤ n ∧ n < 18446744073709551616) : LeafOk (.num n) := by
  intro dd σ h
  obtain ⟨d, rfl⟩ : ∃ d, dd = d + 1 := ⟨dd - 1, by lia⟩
  refine ⟨σ, List.prefix_refl _, do_call (fn := ⟨1, 1, b35⟩) (ρ' := [some (nv (.num n))]) rfl rfl ?_⟩
  show ev d (.ss b35 [some (nv (.num n))] σ) _
  refine ss_take (b := true) (leaf_kind (.num n) _) ?_
  show ev d (.ss [.ret (.bi .str [(.attr (.loc 0) 21)])] [some (nv (.num n))] σ) _
  refine ss_ret1 (is_bi (es_1 (is_attr (p := nv (.num n)) (v := .int n) (is_loc rfl) rfl)) ?_)
  show (if 0 ≤ n ∧ n < 18446744073709551616 then _ else _) = _
  rw [if_pos hn]; rfl
theorem leaf_sym (s : List Nat) : LeafOk (.sym s) := by
  intro dd σ h
  obtain ⟨d, rfl⟩ : ∃ d, dd = d + 1 := ⟨dd - 1, by lia⟩
  refine ⟨σ, List.prefix_refl _, do_call (fn := ⟨1, 1, b35⟩) (ρ' := [some (nv (.sym s))]) rfl rfl ?_⟩
  show ev d (.ss b35 [some (nv (.sym s))] σ) _
  refine ss_skip (leaf_kind (.sym s) _) ?_
  refine ss_take (b := true) (leaf_kind (.sym s) _) ?_
  exact ss_ret1 (is_attr (p := nv (.sym s)) (v := .str s) (is_loc rfl) rfl)
theorem leaf_here : LeafOk .here := by
  intro dd σ h
  obtain ⟨d, rfl⟩ : ∃ d, dd = d + 1 := ⟨dd - 1, by lia⟩
  refine ⟨σ, List.prefix_refl _, do_call (fn := ⟨1, 1, b35⟩) (ρ' := [some (nv .here)]) rfl rfl ?_⟩
  show ev d (.ss b35 [some (nv .here)] σ) _
  refine ss_skip (leaf_kind .here _) ?_; refine ss_skip (leaf_kind .here _) ?_
  refine ss_take (b := true) (leaf_kind .here _) ?_
  exact ss_ret1 ev_e_str
theorem leaf_un (s : List Nat) (t : T) (ih : BrOk t) (hz : (text (.un s t) 0).length ≤ 60000) : LeafOk (.un s t) := by
  intro dd σ h
  obtain ⟨d, rfl⟩ : ∃ d, dd = d + 1 := ⟨dd - 1, by lia⟩
  have h' : 3 * (ht t + 1) + 2 ≤ d + 1 := h
  obtain ⟨τ, h1, h2⟩ := ih 4 d σ (by lia) (by lia)
  refine ⟨τ, h1, do_call (fn := ⟨1, 1, b35⟩) (ρ' := [some (nv (.un s t))]) rfl rfl ?_⟩
  show ev d (.ss b35 [some (nv (.un s t))] σ) _
  refine ss_skip (leaf_kind (.un s t) _) ?_; refine ss_skip (leaf_kind (.un s t) _) ?_; refine ss_skip (leaf_kind (.un s t) _) ?_
  have hz' : (s ++ text t 4).length ≤ 60000 := hz
  rw [List.length_append] at hz'
  refine ss_ret1 (is_adds (b := text t 4) (is_attr (p := nv (.un s t)) (v := .str s) (is_loc rfl) rfl) ?_ (by lia))
  refine is_call (es_c (is_attr (p := nv (.un s t)) (v := nv t) (is_loc rfl) rfl) (es_1 ev_e_int)) ?_
  exact h2

noncomputable def showBody : List S := [.asg 6 (.call 28 [(.attr (.loc 3) 23)]), .ife (.cmp (.loc 2) .lt (.loc 6)) [.asg 1 (.bop .add (.bop .add (.str [40]) (.loc 1)) (.str [41]))] [], .asg 1 (.bop .add (.bop .add (.bop .add (.bop .add (.loc 1) (.str [32])) (.attr (.loc 3) 23)) (.str [32])) (.call 34 [(.attr (.loc 3) 26), (.bop .add (.loc 6) (.int 1))])), .asg 2 (.loc 6)]
noncomputable abbrev sfr (x : PV) (w : List Nat) (lv : Int) (p : Option PV) (c : PV) (i : Nat) (o : Option PV) : Loc := [some x, some (.str w), some (.int lv), p, some c, some (.ref i), o]
noncomputable def HungS : T → Prop
  | .bin _ l r => HungS l ∧ BrOk r
  | _ => True
theorem show_loop {i : Nat} {x c : PV} : ∀ (t : T) (rest : List PV) (σ : Store), σ[i]? = some (.lst ((spine t).map nv ++ rest)) → HungS t → 3 * ht t + 1 ≤ d → (text t 0).length ≤ 60000 →
    ∃ τ p' o', σ <+: τ ∧ (∀ {oo}, ev d (.fr 3 (.lst i (spine t).length) showBody (sfr x (text t 0) (lvT t) p' c i o') τ) oo → ev d (.fr 3 (.lst i 0) showBody (sfr x (text (core t) 0) 4 none c i none) σ) oo) := by
  intro t
  induction t with
  | bin s l r ihl _ =>
    intro rest σ hi hh hd hz
    have hd' : 3 * (max (ht l) (ht r) + 1) + 1 ≤ d := hd
    have hlv := level_le s
    have hzz := hz
    rw [text_bin0] at hzz
    simp only [textI, List.length_append, List.length_cons, List.length_nil] at hzz
    have hl0 := text_len0 l (levelOf s)
    obtain ⟨τ, p', o', h1, h2⟩ := ihl (nv (.bin s l r) :: rest) σ (by rw [hi]; simp [spine]) hh.1 (by lia) (by lia)
    have hi' := pre_get h1 hi
    obtain ⟨e, rfl⟩ : ∃ e, d = e + 1 := ⟨d - 1, by lia⟩
    obtain ⟨τ', h3, h4⟩ := hh.2 (levelOf s + 1) (e + 1) τ (by lia) (by lia)
    refine ⟨τ', some (nv (.bin s l r)), some (.int (levelOf s)), h1.trans h3, ?_⟩
    intro o hk
    rw [show (spine (.bin s l r)).length = (spine l).length + 1 from by simp [spine]] at hk
    refine h2 ?_
    refine fr_lst (v := nv (.bin s l r)) (ρ' := sfr x (text (.bin s l r) 0) (lvT (.bin s l r)) (some (nv (.bin s l r))) c i (some (.int (levelOf s)))) (σ' := τ') hi' ?_ ?_ hk
    · simp [spine]
    · unfold showBody
      show ev (e + 1) (.ss _ (sfr x (text l 0) (lvT l) (some (nv (.bin s l r))) c i o') τ) _
      refine ss_next (x := .asg 6 _) (ρ' := sfr x (text l 0) (lvT l) (some (nv (.bin s l r))) c i (some (.int (levelOf s)))) (σ' := τ) (do_asg (by
        refine is_call (es_1 (is_attr (p := nv (.bin s l r)) (is_loc rfl) (nv_sign s l r))) ?_; exact ev_level s)) ?_
      refine ss_next (x := .ife _ _ _) (ρ' := sfr x (text l (levelOf s)) (lvT l) (some (nv (.bin s l r))) c i (some (.int (levelOf s)))) (σ' := τ) ?_ ?_; rotate_left
      · refine ss_next (x := .asg 1 _) (ρ' := sfr x (text (.bin s l r) 0) (lvT l) (some (nv (.bin s l r))) c i (some (.int (levelOf s)))) (σ' := τ') ?_ ?_; rotate_left
        · refine ss_next (x := .asg 2 _) (ρ' := sfr x (text (.bin s l r) 0) (lvT (.bin s l r)) (some (nv (.bin s l r))) c i (some (.int (levelOf s)))) (σ' := τ') (do_asg (is_loc rfl)) ?_
          exact ev_ss_nil
        · rw [text_bin0]
          refine do_asg (v := .str (textI s (text l (levelOf s)) (text r (levelOf s + 1)))) ?_
          unfold textI
          refine is_adds (is_adds (is_adds (is_adds (is_loc rfl) ev_e_str ?_) (is_attr (p := nv (.bin s l r)) (is_loc rfl) (nv_sign s l r)) ?_) ev_e_str ?_) ?_ ?_
          · simp; lia
          · simp; lia
          · simp; lia
          · refine is_call (es_c (is_attr (p := nv (.bin s l r)) (v := nv r) (is_loc rfl) rfl) (es_1 (is_bop (is_loc (v := .int (levelOf s)) rfl) ev_e_int (bop_addi _ _)))) ?_
            exact h4
          · simp; lia
      · refine do_ife (is_cmp (o := .lt) (p := .int (lvT l)) (q := .int (levelOf s)) (is_loc rfl) (is_loc rfl) rfl) ?_
        rw [text_at l (c := levelOf s) (by lia)] at hzz ⊢
        by_cases hb : lvT l < levelOf s
        · rw [if_pos hb, decide_eq_true hb]
          rw [if_pos hb] at hzz
          simp only [List.length_append, List.length_cons, List.length_nil] at hzz
          show ev (e + 1) (.ss [.asg 1 (.bop .add (.bop .add (.str [40]) (.loc 1)) (.str [41]))] _ τ) _
          refine ss_next (x := .asg 1 _) (ρ' := sfr x ([40] ++ text l 0 ++ [41]) (lvT l) (some (nv (.bin s l r))) c i (some (.int (levelOf s)))) (σ' := τ) (do_asg (v := .str ([40] ++ text l 0 ++ [41])) (is_adds (is_adds ev_e_str (is_loc rfl) (by simp; lia)) ev_e_str (by simp; lia))) ?_
          exact ev_ss_nil
        · rw [if_neg hb, decide_eq_false hb]
          exact ev_ss_nil
  | num n => exact fun rest σ _ _ _ _ => ⟨σ, none, none, List.prefix_refl _, id⟩
  | sym n => exact fun rest σ _ _ _ _ => ⟨σ, none, none, List.prefix_refl _, id⟩
  | here => exact fun rest σ _ _ _ _ => ⟨σ, none, none, List.prefix_refl _, id⟩
  | un s t _ => exact fun rest σ _ _ _ _ => ⟨σ, none, none, List.prefix_refl _, id⟩
theorem show_of (t : T) (hc : LeafOk (core t)) (hh : HungS t) (hz : ht t ≤ 60000) (hl : (text t 0).length ≤ 60000) : ShowOk t := by
  intro dd σ h
  obtain ⟨d, rfl⟩ : ∃ d, dd = d + 2 := ⟨dd - 2, by lia⟩
  have hsp := spine_ht t
  have hl := ev_leftSpine (d := d) (σ := σ) t (by lia)
  have hcore := ht_core t
  obtain ⟨τ, h1, h2⟩ := hc (d + 1) (σ ++ [.lst ((spine t).map nv)]) (by lia)
  have hi : τ[σ.length]? = some (.lst ((spine t).map nv ++ [])) := by rw [List.append_nil]; exact pre_get h1 (last_get _)
  obtain ⟨τ', p', o', h3, h4⟩ := show_loop (d := d + 1) (x := nv t) (c := nv (core t)) t [] τ hi hh (by lia) (by lia)
  refine ⟨τ', (List.prefix_append _ _).trans (h1.trans h3), do_call (fn := ⟨1, 7, b36⟩) (ρ' := sfr (nv t) (text t 0) (lvT t) p' (nv (core t)) σ.length o') rfl rfl ?_⟩
  show ev (d + 1) (.ss b36 [some (nv t), none, none, none, none, none, none] σ) _
  refine ss_next (x := .asg2 4 5 _) (ρ' := [some (nv t), none, none, none, some (nv (core t)), some (.ref σ.length), none]) (σ' := σ ++ [.lst ((spine t).map nv)]) (do_asg2 (by refine is_call (es_1 (is_loc (v := nv t) rfl)) ?_; exact hl)) ?_
  refine ss_next (x := .asg 1 _) (ρ' := [some (nv t), some (.str (text (core t) 0)), none, none, some (nv (core t)), some (.ref σ.length), none]) (σ' := τ) (do_asg (by refine is_call (es_1 (is_loc (v := nv (core t)) rfl)) ?_; exact h2)) ?_
  refine ss_next (x := .asg 2 _) (ρ' := sfr (nv t) (text (core t) 0) 4 none (nv (core t)) σ.length none) (σ' := τ) (do_asg ev_e_int) ?_
  refine ss_next (x := .forr _ _ _) (ρ' := sfr (nv t) (text t 0) (lvT t) p' (nv (core t)) σ.length o') (σ' := τ') ?_ ?_; rotate_left
  · exact ss_ret1 (is_loc rfl)
  · have hs : srcOf τ (.ref σ.length) = some (.lst σ.length 0) := by simp only [srcOf, hi]
    refine do_forr (v := .ref σ.length) (σ' := τ) (src := .lst σ.length 0) (is_loc rfl) hs ?_
    have hi' := pre_get h3 hi
    exact h4 (fr_lend hi' (by simp))
theorem show_all : ∀ (n : Nat) (t : T), ht t ≤ n → n ≤ 60000 → Nums t → (text t 0).length ≤ 60000 → ShowOk t ∧ LeafOk (core t) ∧ HungS t := by
  intro n t
  induction t with
  | num k => exact fun h hn hk hz => ⟨show_of _ (leaf_num k hk) trivial (by lia) hz, leaf_num k hk, trivial⟩
  | sym k => exact fun h hn _ hz => ⟨show_of _ (leaf_sym k) trivial (by lia) hz, leaf_sym k, trivial⟩
  | here => exact fun h hn _ hz => ⟨show_of _ leaf_here trivial (by lia) hz, leaf_here, trivial⟩
  | un s t ih =>
    intro h hn hk hz
    have hz' : (s ++ text t 4).length ≤ 60000 := hz
    rw [List.length_append] at hz'
    have h0 := text_len0 t 4
    have := ih (by simp only [ht] at h; lia) hn hk (by lia)
    have hl := leaf_un s t (br_of this.1 (by lia)) hz
    exact ⟨show_of (.un s t) hl trivial (by lia) hz, hl, trivial⟩
  | bin s l r ihl ihr =>
    intro h hn hk hz
    have hzz := hz
    rw [text_bin0] at hzz
    simp only [textI, List.length_append, List.length_cons, List.length_nil] at hzz
    have h0 := text_len0 l (levelOf s)
    have h0' := text_len0 r (levelOf s + 1)
    have hl := ihl (by simp only [ht] at h; lia) hn hk.1 (by lia)
    have hr := ihr (by simp only [ht] at h; lia) hn hk.2 (by lia)
    have hh : HungS (.bin s l r) := ⟨hl.2.2, br_of hr.1 (by lia)⟩
    exact ⟨show_of (.bin s l r) hl.2.1 hh (by lia) hz, hl.2.1, hh⟩
end Mine
end
section
namespace Mine
variable {d : Nat} {ρ : Loc} {σ : Store}

theorem sub_tup {l : List PV} {n : Nat} {v : PV} (h : l[n]? = some v) (hn : n < 100) : subV σ (.tup l) (.int n) = some v := by
  have h2 : (0 : Int) ≤ n ∧ (n : Int) < 1073741824 := by lia
  simp only [subV, h2, and_self, if_true, Int.toNat_natCast, h]
theorem is_item {x : E} {l : List PV} {n : Nat} {v : PV} {σ' : Store} (h1 : ev d (.e x ρ σ) (.v (.tup l) σ')) (h : l[n]? = some v) (hn : n < 100) : ev d (.e (.sub x (.int n)) ρ σ) (.v v σ') :=
  is_sub h1 ev_e_int (sub_tup h hn)
theorem level_low (s : List Nat) (h : 1 ≤ levelOf s) : (if ((s == [45]) || ((s == [43]) || false)) then (1 : Int) else if ((s == [124]) || ((s == [38]) || ((s == [94]) || false))) then 2 else 3) = levelOf s := by
  unfold levelOf at *
  generalize (s == [45]) = a1 at *
  generalize (s == [43]) = a2 at *
  generalize (s == [124]) = a3 at *
  generalize (s == [38]) = a4 at *
  generalize (s == [94]) = a5 at *
  generalize ((s == [42]) || ((s == [47]) || ((s == [37]) || ((s == [60, 60]) || (s == [62, 62]))))) = a6 at *
  revert h
  revert a1 a2 a3 a4 a5 a6
  decide
noncomputable def Signs : T → Prop
  | .un _ t => Signs t
  | .bin s l r => 1 ≤ levelOf s ∧ Signs l ∧ Signs r
  | _ => True
theorem tv_item0 {i : Nat} (t : T) (h : locAt ρ i = some (tv t)) : ev d (.e (.sub (.loc i) (.int 0)) ρ σ) (.v (.str (kindOf t)) σ) := by
  cases t with
  | num n => exact is_item (n := 0) (is_loc h) rfl (by decide)
  | sym n => exact is_item (n := 0) (is_loc h) rfl (by decide)
  | here => exact is_item (n := 0) (is_loc h) rfl (by decide)
  | un s t => exact is_item (n := 0) (is_loc h) rfl (by decide)
  | bin s l r => exact is_item (n := 0) (is_loc h) rfl (by decide)
theorem bin_sign {i : Nat} {s : List Nat} {l r : T} (h : locAt ρ i = some (tv (.bin s l r))) : ev d (.e (.sub (.loc i) (.int 1)) ρ σ) (.v (.str s) σ) := is_item (n := 1) (is_loc h) rfl (by decide)
theorem ev_lawLevel (s : List Nat) (l r : T) (hs : 1 ≤ levelOf s) : ev (d + 1) (.call 40 [tv (.bin s l r)] σ) (.v (.int (levelOf s)) σ) := by
  refine do_call (fn := ⟨1, 1, b40⟩) (ρ' := [some (tv (.bin s l r))]) rfl rfl ?_
  show ev d (.ss b40 [some (tv (.bin s l r))] σ) _
  refine ss_skip (is_cmp (o := .ne) (tv_item0 (.bin s l r) rfl) ev_e_str rfl) ?_
  have i1 : ev d (.e (.cmp (.sub (.loc 0) (.int 1)) .isin (.glob 3)) [some (tv (.bin s l r))] σ) (.v (.bool ((s == [45]) || ((s == [43]) || false))) σ) := is_cmp (bin_sign rfl) (is_glob rfl) rfl
  have i2 : ev d (.e (.cmp (.sub (.loc 0) (.int 1)) .isin (.glob 4)) [some (tv (.bin s l r))] σ) (.v (.bool ((s == [124]) || ((s == [38]) || ((s == [94]) || false)))) σ) := is_cmp (bin_sign rfl) (is_glob rfl) rfl
  refine ss_ret1 ?_
  rw [← level_low s hs]
  refine is_ite i1 ?_
  generalize ((s == [45]) || ((s == [43]) || false)) = a
  cases a
  · refine is_ite i2 ?_
    generalize ((s == [124]) || ((s == [38]) || ((s == [94]) || false))) = b
    cases b
    · exact ev_e_int
    · exact ev_e_int
  · exact ev_e_int
theorem ev_lawText : ∀ (t : T) (c : Int) (dd : Nat) (σ : Store), ht t + 1 ≤ dd → Nums t → Signs t → (text t c).length ≤ 60000 → c ≤ 4 → ev dd (.call 41 [tv t, .int c] σ) (.v (.str (text t c)) σ) := by
  intro t
  have kd : ∀ (t : T) (d : Nat) (c : Int) (σ : Store) (k : List Nat), ev d (.e (.cmp (.sub (.loc 0) (.int 0)) .eq (.str k)) [some (tv t), some (.int c), none, none] σ) (.v (.bool (kindOf t == k)) σ) := fun t d c σ k => is_cmp (tv_item0 t rfl) ev_e_str rfl
  induction t with
  | num n =>
    intro c dd σ h hn _ _ _
    obtain ⟨d, rfl⟩ : ∃ d, dd = d + 1 := ⟨dd - 1, by lia⟩
    refine do_call (fn := ⟨2, 4, b41⟩) (ρ' := [some (tv (.num n)), some (.int c), none, none]) rfl rfl ?_
    show ev d (.ss b41 [some (tv (.num n)), some (.int c), none, none] σ) _
    refine ss_take (b := true) (kd (.num n) d c σ _) ?_
    refine ss_ret1 (is_bi (es_1 (is_item (n := 1) (v := .int n) (is_loc (v := tv (.num n)) rfl) rfl (by decide))) ?_)
    show (if 0 ≤ n ∧ n < 18446744073709551616 then _ else _) = _
    rw [if_pos (show 0 ≤ n ∧ n < 18446744073709551616 from hn)]; rfl
  | sym s =>
    intro c dd σ h hn _ _ _
    obtain ⟨d, rfl⟩ : ∃ d, dd = d + 1 := ⟨dd - 1, by lia⟩
    refine do_call (fn := ⟨2, 4, b41⟩) (ρ' := [some (tv (.sym s)), some (.int c), none, none]) rfl rfl ?_
    show ev d (.ss b41 [some (tv (.sym s)), some (.int c), none, none] σ) _
    refine ss_skip (kd (.sym s) d c σ _) ?_
    refine ss_take (b := true) (kd (.sym s) d c σ _) ?_
    exact ss_ret1 (is_item (n := 1) (v := .str s) (is_loc (v := tv (.sym s)) rfl) rfl (by decide))
  | here =>
    intro c dd σ h hn _ _ _
    obtain ⟨d, rfl⟩ : ∃ d, dd = d + 1 := ⟨dd - 1, by lia⟩
    refine do_call (fn := ⟨2, 4, b41⟩) (ρ' := [some (tv .here), some (.int c), none, none]) rfl rfl ?_
    show ev d (.ss b41 [some (tv .here), some (.int c), none, none] σ) _
    refine ss_skip (kd .here d c σ _) ?_; refine ss_skip (kd .here d c σ _) ?_
    refine ss_take (b := true) (kd .here d c σ _) ?_
    exact ss_ret1 ev_e_str
  | un s t ih =>
    intro c dd σ h hn hs hz hc
    obtain ⟨d, rfl⟩ : ∃ d, dd = d + 1 := ⟨dd - 1, by lia⟩
    have h' : ht t + 1 + 1 ≤ d + 1 := h
    have hz' : (s ++ text t 4).length ≤ 60000 := hz
    rw [List.length_append] at hz'
    have := ih 4 d σ (by lia) hn hs (by lia) (by lia)
    refine do_call (fn := ⟨2, 4, b41⟩) (ρ' := [some (tv (.un s t)), some (.int c), none, none]) rfl rfl ?_
    show ev d (.ss b41 [some (tv (.un s t)), some (.int c), none, none] σ) _
    refine ss_skip (kd (.un s t) d c σ _) ?_; refine ss_skip (kd (.un s t) d c σ _) ?_; refine ss_skip (kd (.un s t) d c σ _) ?_
    refine ss_take (b := true) (kd (.un s t) d c σ _) ?_
    refine ss_ret1 (is_adds (a := s) (b := text t 4) (is_item (n := 1) (is_loc (v := tv (.un s t)) rfl) rfl (by decide)) ?_ (by lia))
    exact (is_call (es_c (is_item (n := 2) (v := tv t) (is_loc (v := tv (.un s t)) rfl) rfl (by decide)) (es_1 ev_e_int)) this)
  | bin s l r ihl ihr =>
    intro c dd σ h hn hs hz hc
    obtain ⟨d, rfl⟩ : ∃ d, dd = d + 1 := ⟨dd - 1, by lia⟩
    have h' : max (ht l) (ht r) + 1 + 1 ≤ d + 1 := h
    have hlv := level_le s
    have hz0 := Nat.le_trans (text_len0 (.bin s l r) c) hz
    have hin := hz0
    rw [text_bin0] at hin hz0
    have hin2 := hin
    simp only [textI, List.length_append, List.length_cons, List.length_nil] at hin
    have h1 := ihl (levelOf s) d σ (by lia) hn.1 hs.2.1 (by lia) (by lia)
    have h2 := ihr (levelOf s + 1) d σ (by lia) hn.2 hs.2.2 (by lia) (by lia)
    refine do_call (fn := ⟨2, 4, b41⟩) (ρ' := [some (tv (.bin s l r)), some (.int c), some (.int (levelOf s)), some (.str (textI s (text l (levelOf s)) (text r (levelOf s + 1))))]) rfl rfl ?_
    show ev d (.ss b41 [some (tv (.bin s l r)), some (.int c), none, none] σ) _
    refine ss_skip (kd (.bin s l r) d c σ _) ?_; refine ss_skip (kd (.bin s l r) d c σ _) ?_; refine ss_skip (kd (.bin s l r) d c σ _) ?_; refine ss_skip (kd (.bin s l r) d c σ _) ?_
    obtain ⟨e, rfl⟩ : ∃ e, d = e + 1 := ⟨d - 1, by lia⟩
    refine ss_next (x := .asg 2 _) (ρ' := [some (tv (.bin s l r)), some (.int c), some (.int (levelOf s)), none]) (σ' := σ) (do_asg (by
      refine is_call (es_1 (is_loc (v := tv (.bin s l r)) rfl)) ?_; exact ev_lawLevel s l r hs.1)) ?_
    refine ss_next (x := .asg 3 _) (ρ' := [some (tv (.bin s l r)), some (.int c), some (.int (levelOf s)), some (.str (textI s (text l (levelOf s)) (text r (levelOf s + 1))))]) (σ' := σ) ?_ ?_; rotate_left
    · refine ss_ret1 (is_ite (b := decide (levelOf s < c)) (is_cmp (o := .lt) (p := .int (levelOf s)) (q := .int c) (is_loc rfl) (is_loc rfl) rfl) ?_)
      rw [show text (.bin s l r) c = if levelOf s < c then [40] ++ textI s (text l (levelOf s)) (text r (levelOf s + 1)) ++ [41] else textI s (text l (levelOf s)) (text r (levelOf s + 1)) from rfl]
      have hc3 : (text (.bin s l r) c).length ≤ 60000 := hz
      by_cases hb : levelOf s < c
      · rw [if_pos hb, decide_eq_true hb]
        refine is_adds (is_adds ev_e_str (is_loc rfl) ?_) ev_e_str ?_
        · simp only [List.length_cons, List.length_nil]; lia
        · simp only [List.length_append, List.length_cons, List.length_nil]; lia
      · rw [if_neg hb, decide_eq_false hb]
        exact is_loc rfl
    · refine do_asg (v := .str (textI s (text l (levelOf s)) (text r (levelOf s + 1)))) ?_
      unfold textI
      refine is_adds (σ' := σ) (is_adds (σ' := σ) (is_adds (σ' := σ) (is_adds (σ' := σ) ?_ ev_e_str ?_) (bin_sign rfl) ?_) ev_e_str ?_) ?_ ?_
      · exact (is_call (es_c (is_item (n := 2) (v := tv l) (is_loc (v := tv (.bin s l r)) rfl) rfl (by decide)) (es_1 (is_loc (v := .int (levelOf s)) rfl))) h1)
      · simp; lia
      · simp; lia
      · simp; lia
      · exact (is_call (es_c (is_item (n := 3) (v := tv r) (is_loc (v := tv (.bin s l r)) rfl) rfl (by decide)) (es_1 (is_bop (is_loc (v := .int (levelOf s)) rfl) ev_e_int (bop_addi _ _)))) h2)
      · simp; lia
end Mine
end
section
namespace Mine
variable {d : Nat} {ρ : Loc} {σ : Store}
/-! what is heard is small, and told apart -/
noncomputable def Hl (k : Kd) (l : List Lx) : Option (T × List Lx) → Prop
  | none => True
  | some (t, l') => match k with
    | .loop _ _ left => ht t + l'.length ≤ ht left + l.length
    | _ => ht t + l'.length ≤ l.length
theorem ht_le {k : Kd} {l : List Lx} {r : Option (T × List Lx)} (h : R k l r) : Hl k l r := by
  induction h with
  | deep | unx | parx | pary | other | done | levelx | morex => exact trivial
  | @num dep w l h => show 1 + l.length ≤ l.length + 1; lia
  | @here dep l h => show 1 + l.length ≤ l.length + 1; lia
  | @sym dep w l h _ => show 1 + l.length ≤ l.length + 1; lia
  | @un dep w l t l' h h2 _ ih =>
    have q : ht t + l'.length ≤ l.length := ih
    show ht t + 1 + l'.length ≤ l.length + 1
    lia
  | @par dep l t l' h _ ih =>
    have q : ht t + (l'.length + 1) ≤ l.length := ih
    show ht t + l'.length ≤ l.length + 1
    lia
  | @level least dep l t l' r _ _ ih1 ih2 =>
    cases r with
    | none => exact trivial
    | some q =>
      obtain ⟨u, l''⟩ := q
      have q1 : ht t + l'.length ≤ l.length := ih1
      have q2 : ht u + l''.length ≤ ht t + l'.length := ih2
      show ht u + l''.length ≤ l.length
      lia
  | stop h => exact Nat.le_refl _
  | @more least dep t w l u l' r lv _ _ _ _ _ ih1 ih2 =>
    cases r with
    | none => exact trivial
    | some q =>
      obtain ⟨v, l''⟩ := q
      have q1 : ht u + l'.length ≤ l.length := ih1
      have q2 : ht v + l''.length ≤ (max (ht t) (ht u) + 1) + l'.length := ih2
      show ht v + l''.length ≤ ht t + (l.length + 1)
      lia
/-- every word of a tree -/
noncomputable def Wd (p : List Nat → Prop) : T → Prop
  | .sym s => p s
  | .un s t => p s ∧ Wd p t
  | .bin s l r => p s ∧ Wd p l ∧ Wd p r
  | _ => True
noncomputable def Wl (p : List Nat → Prop) (k : Kd) : Option (T × List Lx) → Prop
  | none => True
  | some (t, l') => match k with
    | .loop _ _ left => Wd p left → Wd p t ∧ ∀ x ∈ l', p x.word
    | _ => Wd p t ∧ ∀ x ∈ l', p x.word
theorem wd_of {p : List Nat → Prop} {k : Kd} {l : List Lx} {r : Option (T × List Lx)} (h : R k l r) : (∀ x ∈ l, p x.word) → Wl p k r := by
  induction h with
  | deep | unx | parx | pary | other | done | levelx | morex => exact fun _ => trivial
  | num h => exact fun hl => ⟨trivial, fun x hx => hl x (.tail _ hx)⟩
  | here h => exact fun hl => ⟨trivial, fun x hx => hl x (.tail _ hx)⟩
  | sym h _ => exact fun hl => ⟨hl _ (.head _), fun x hx => hl x (.tail _ hx)⟩
  | un h h2 _ ih => exact fun hl => ⟨⟨hl _ (.head _), (ih fun x hx => hl x (.tail _ hx)).1⟩, (ih fun x hx => hl x (.tail _ hx)).2⟩
  | par h _ ih => exact fun hl => have q := ih fun x hx => hl x (.tail _ hx); ⟨q.1, fun x hx => q.2 x (.tail _ hx)⟩
  | @level least dep l t l' r _ _ ih1 ih2 =>
    intro hl
    have q := ih1 hl
    cases r with
    | none => exact trivial
    | some q' => exact ih2 q.2 q.1
  | stop h => exact fun hl hw => ⟨hw, hl⟩
  | @more least dep t w l u l' r lv _ _ _ _ _ ih1 ih2 =>
    intro hl
    have q := ih1 fun x hx => hl x (.tail _ hx)
    cases r with
    | none => exact trivial
    | some q' => exact fun hw => ih2 q.2 ⟨hl _ (.head _), hw, q.1⟩
noncomputable def Cps (w : List Nat) : Prop := ∀ c ∈ w, c < 1114112
theorem okD_str (n : Nat) (w : List Nat) : okD n (.str w) = w.all fun c => decide (c < 1114112) := by cases n <;> rfl
theorem okD_int (n : Nat) (i : Int) : okD n (.int i) = true := by cases n <;> rfl
theorem okD_w {n : Nat} {w : List Nat} (h : Cps w) : okD n (.str w) = true := by
  rw [okD_str, List.all_eq_true]; exact fun c hc => decide_eq_true (h c hc)
theorem okD_tv : ∀ (t : T) (n : Nat), ht t ≤ n → Wd Cps t → okD n (tv t) = true
  | .num i, n + 1, _, _ => by
    show ([.str kNumber, .int i] : List PV).all (okD n) = true
    rw [List.all_cons, List.all_cons, okD_w (by unfold Cps kNumber; decide), okD_int]; rfl
  | .sym s, n + 1, _, h => by
    show ([.str _, .str s] : List PV).all (okD n) = true
    rw [List.all_cons, List.all_cons, okD_w (by unfold Cps; decide), okD_w h]; rfl
  | .here, n + 1, _, _ => by
    show ([.str _] : List PV).all (okD n) = true
    rw [List.all_cons, okD_w (by unfold Cps; decide)]; rfl
  | .un s t, n + 1, hn, h => by
    show ([.str _, .str s, tv t] : List PV).all (okD n) = true
    rw [List.all_cons, List.all_cons, List.all_cons, okD_w (by unfold Cps; decide), okD_w h.1, okD_tv t n (by have : ht t + 1 ≤ n + 1 := hn; lia) h.2]; rfl
  | .bin s l r, n + 1, hn, h => by
    have : max (ht l) (ht r) + 1 ≤ n + 1 := hn
    show ([.str _, .str s, tv l, tv r] : List PV).all (okD n) = true
    rw [List.all_cons, List.all_cons, List.all_cons, List.all_cons, okD_w (by unfold Cps; decide), okD_w h.1, okD_tv l n (by lia) h.2.1, okD_tv r n (by lia) h.2.2]; rfl
  | .num _, 0, h, _ => absurd h (by show ¬ 1 ≤ 0; lia)
  | .sym _, 0, h, _ => absurd h (by show ¬ 1 ≤ 0; lia)
  | .here, 0, h, _ => absurd h (by show ¬ 1 ≤ 0; lia)
  | .un _ _, 0, h, _ => absurd h (by show ¬ _ + 1 ≤ 0; lia)
  | .bin _ _ _, 0, h, _ => absurd h (by show ¬ _ + 1 ≤ 0; lia)
theorem eqB_str (n : Nat) (a b : List Nat) : eqB n (.str a) (.str b) = (a == b) := by cases n <;> rfl
theorem eqB_int (n : Nat) (a b : Int) : eqB n (.int a) (.int b) = (a == b) := by cases n <;> rfl
theorem eqL_cons {f : PV → PV → Bool} {a b : PV} {r q : List PV} : eqL f (a :: r) (b :: q) = (f a b && eqL f r q) := rfl
theorem eqB_self : ∀ (t : T) (n : Nat), ht t ≤ n → eqB n (tv t) (tv t) = true
  | .num i, n + 1, _ => by show eqL (eqB n) [.str kNumber, .int i] [.str kNumber, .int i] = true; rw [eqL_cons, eqL_cons, eqB_str, eqB_int, beq_self_eq_true, beq_self_eq_true]; rfl
  | .sym s, n + 1, _ => by show eqL (eqB n) [.str _, .str s] [.str _, .str s] = true; rw [eqL_cons, eqL_cons, eqB_str, eqB_str, beq_self_eq_true, beq_self_eq_true]; rfl
  | .here, n + 1, _ => by show eqL (eqB n) [.str _] [.str _] = true; rw [eqL_cons, eqB_str, beq_self_eq_true]; rfl
  | .un s t, n + 1, hn => by
    show eqL (eqB n) [.str _, .str s, tv t] [.str _, .str s, tv t] = true
    rw [eqL_cons, eqL_cons, eqL_cons, eqB_str, eqB_str, beq_self_eq_true, beq_self_eq_true, eqB_self t n (by have : ht t + 1 ≤ n + 1 := hn; lia)]; rfl
  | .bin s l r, n + 1, hn => by
    have : max (ht l) (ht r) + 1 ≤ n + 1 := hn
    show eqL (eqB n) [.str _, .str s, tv l, tv r] [.str _, .str s, tv l, tv r] = true
    rw [eqL_cons, eqL_cons, eqL_cons, eqL_cons, eqB_str, eqB_str, beq_self_eq_true, beq_self_eq_true, eqB_self l n (by lia), eqB_self r n (by lia)]; rfl
  | .num _, 0, h => absurd h (by show ¬ 1 ≤ 0; lia)
  | .sym _, 0, h => absurd h (by show ¬ 1 ≤ 0; lia)
  | .here, 0, h => absurd h (by show ¬ 1 ≤ 0; lia)
  | .un _ _, 0, h => absurd h (by show ¬ _ + 1 ≤ 0; lia)
  | .bin _ _ _, 0, h => absurd h (by show ¬ _ + 1 ≤ 0; lia)
theorem eqB_tup {n : Nat} {a b : List PV} (h : eqB n (.tup a) (.tup b) = true) : ∃ m, n = m + 1 ∧ eqL (eqB m) a b = true := by
  cases n with
  | zero => cases h
  | succ m => exact ⟨m, rfl, h⟩
theorem eqL_inv {f : PV → PV → Bool} {a b : PV} {r q : List PV} (h : eqL f (a :: r) (b :: q) = true) : f a b = true ∧ eqL f r q = true := Bool.and_eq_true_iff.mp h
theorem eqS_inv {n : Nat} {a b : List Nat} (h : eqB n (.str a) (.str b) = true) : a = b := by rw [eqB_str] at h; exact beq_iff_eq.mp h
theorem eqI_inv {n : Nat} {a b : Int} (h : eqB n (.int a) (.int b) = true) : a = b := by rw [eqB_int] at h; exact beq_iff_eq.mp h
theorem eqB_inj : ∀ (t u : T) (n : Nat), eqB n (tv t) (tv u) = true → t = u := by
  intro t
  induction t with
  | num i =>
    intro u n h
    cases u with
    | num j =>
      obtain ⟨m, rfl, h⟩ := eqB_tup h
      rw [eqI_inv (eqL_inv (eqL_inv h).2).1]
    | sym | here | un | bin => obtain ⟨m, rfl, h⟩ := eqB_tup h; exact absurd (eqS_inv (eqL_inv h).1) (by decide)
  | sym s =>
    intro u n h
    cases u with
    | sym s' =>
      obtain ⟨m, rfl, h⟩ := eqB_tup h
      rw [eqS_inv (eqL_inv (eqL_inv h).2).1]
    | num | here | un | bin => obtain ⟨m, rfl, h⟩ := eqB_tup h; exact absurd (eqS_inv (eqL_inv h).1) (by decide)
  | here =>
    intro u n h
    cases u with
    | here => rfl
    | num | sym | un | bin => obtain ⟨m, rfl, h⟩ := eqB_tup h; exact absurd (eqS_inv (eqL_inv h).1) (by decide)
  | un s t ih =>
    intro u n h
    cases u with
    | un s' t' =>
      obtain ⟨m, rfl, h⟩ := eqB_tup h
      have h2 := (eqL_inv h).2
      rw [eqS_inv (eqL_inv h2).1, ih _ _ (eqL_inv (eqL_inv h2).2).1]
    | num | sym | here | bin => obtain ⟨m, rfl, h⟩ := eqB_tup h; exact absurd (eqS_inv (eqL_inv h).1) (by decide)
  | bin s l r ihl ihr =>
    intro u n h
    cases u with
    | bin s' l' r' =>
      obtain ⟨m, rfl, h⟩ := eqB_tup h
      have h2 := (eqL_inv h).2
      have h3 := (eqL_inv h2).2
      rw [eqS_inv (eqL_inv h2).1, ihl _ _ (eqL_inv h3).1, ihr _ _ (eqL_inv (eqL_inv h3).2).1]
    | num | sym | here | un => obtain ⟨m, rfl, h⟩ := eqB_tup h; exact absurd (eqS_inv (eqL_inv h).1) (by decide)
noncomputable def noneV : PV := .tup [.str [110, 111, 110, 101]]
theorem none_ne (t : T) (n : Nat) : eqB n noneV (tv t) = false := by
  cases h : eqB n noneV (tv t) with
  | false => rfl
  | true => cases t <;> (obtain ⟨m, rfl, h⟩ := eqB_tup h; exact absurd (eqS_inv (eqL_inv h).1) (by decide))
/-- what is heard of an answer -/
noncomputable def hv : Option (T × List Lx) → PV
  | some (u, []) => tv u
  | _ => noneV
theorem heard_at {d : Nat} {t : List Nat} : (∀ {oo}, ev d (.call 33 [.str t] σ) oo → ev d (.e (.call 33 [(.loc 0)]) [some (.str t)] σ) oo) := by
  exact is_call (es_1 (is_loc (v := .str t) rfl))
theorem heard_none {d : Nat} {t : List Nat} (h : ∃ τ, ev (d + 1) (.call 33 [.str t] σ) (.exc τ)) : ∃ τ, ev (d + 2) (.call 42 [.str t] σ) (.v noneV τ) := by
  obtain ⟨τ, h⟩ := h
  refine ⟨τ, do_call (fn := ⟨1, 1, b42⟩) rfl rfl (ρ' := [some (.str t)]) ?_⟩
  show ev (d + 1) (.ss b42 [some (.str t)] σ) _
  refine ss_retd ?_
  exact do_tryx (ss_excd (do_retx (is_methx (heard_at h))))
theorem heard_some {d : Nat} {t : List Nat} {u : T} (hu : ht u ≤ d) (hd : d ≤ 60000) (h : ∃ τ, ev (d + 1) (.call 33 [.str t] σ) (.v (nv u) τ)) : ∃ τ, ev (d + 2) (.call 42 [.str t] σ) (.v (tv u) τ) := by
  obtain ⟨τ, h⟩ := h
  obtain ⟨τ', _, h2⟩ := (told_all d u hu hd).1 (d + 1) τ (by lia)
  refine ⟨τ', do_call (fn := ⟨1, 1, b42⟩) rfl rfl (ρ' := [some (.str t)]) ?_⟩
  show ev (d + 1) (.ss b42 [some (.str t)] σ) _
  refine ss_retd ?_
  exact do_tryr (ss_retd (do_ret (is_meth (heard_at h) (nv_told u) ev_es_nil h2)))
theorem ev_heard {d : Nat} {t tb tl : List Nat} {its : List Item} {r : Option (T × List Lx)} (g : Good1 t its tb tl) (hn : its.length ≤ 100) (hr : R (.level 1 0) (its.map (·.2)) r) (hd : 110 ≤ d) (hz : d ≤ 60000) :
    ∃ τ, ev (d + 2) (.call 42 [.str t] σ) (.v (hv r) τ) := by
  have h := ev_exprOf (σ := σ) g hr hd
  cases r with
  | none => exact heard_none h
  | some q =>
    obtain ⟨u, l'⟩ := q
    cases l' with
    | nil =>
      obtain ⟨τ, _, h⟩ := h
      have q : ht u + 0 ≤ (its.map (·.2)).length := ht_le hr
      rw [List.length_map] at q
      exact heard_some (by lia) hz ⟨τ, h⟩
    | cons x l' => exact heard_none h
end Mine
end
section
namespace Mine
/-! the reader reads the law's lexemes back -/
noncomputable def mO : Lx := .mark [40]
noncomputable def mC : Lx := .mark [41]
/-- the lexemes of a tree, with its brackets; k: how deep -/
inductive Tx : T → Nat → List Lx → Nat → Prop
  | num {n : Int} {w : List Nat} {c} : worthFrom 0 w = n → Tx (.num n) c [.num w] 0
  | sym {s c} : s ≠ [46] → Tx (.sym s) c [.name s] 0
  | here {c} : Tx .here c [.name [46]] 0
  | hereP {c} : Tx .here c [mO, .name [46], mC] 1
  | un {s t c l k} : isUn s = true → Tx t 4 l k → Tx (.un s t) c (.mark s :: l) (k + 1)
  | bin {s l r c a b i j} {lv : Nat} : levelOf s = (lv : Int) → 1 ≤ lv → Tx l lv a i → Tx r (lv + 1) b j → c ≤ lv → Tx (.bin s l r) c (a ++ .mark s :: b) (max i j)
  | binP {s l r c a b i j} {lv : Nat} : levelOf s = (lv : Int) → 1 ≤ lv → Tx l lv a i → Tx r (lv + 1) b j → lv < c → Tx (.bin s l r) c (mO :: (a ++ .mark s :: (b ++ [mC]))) (max i j + 1)
noncomputable def topL (t : T) (c : Nat) : Int := if lvT t < (c : Int) then 4 else lvT t
/-- read as a part, or as a level -/
noncomputable def Rd (t : T) (c : Nat) (l : List Lx) (k : Nat) : Prop := ∀ (least dep : Nat) (rest : List Lx) (r : Option (T × List Lx)), 1 ≤ least → least ≤ c → dep + k ≤ 10 → lev rest ≤ topL t c → R (.loop least dep t) rest r → R (.level least dep) (l ++ rest) r
noncomputable def Rp (t : T) (l : List Lx) (k : Nat) : Prop := ∀ (dep : Nat) (rest : List Lx), dep + k ≤ 10 → R (.part dep) (l ++ rest) (some (t, rest))
theorem rd_of {t : T} {c k : Nat} {l : List Lx} (h : Rp t l k) : Rd t c l k := fun least dep rest r _ _ hd _ hr => .level (h dep rest hd) hr
theorem rd_bin {s : List Nat} {l r : T} {a b : List Lx} {i j lv : Nat} (hs : levelOf s = (lv : Int)) (h1 : 1 ≤ lv) (h3 : lv ≤ 3) (ha : Rd l lv a i) (hb : Rd r (lv + 1) b j) (htl : (lv : Int) ≤ topL l lv) (htr : (lv : Int) + 1 ≤ topL r (lv + 1))
    {least dep : Nat} {rest : List Lx} {q : Option (T × List Lx)} (hl : 1 ≤ least) (hc : least ≤ lv) (hd : dep + max i j ≤ 10) (hv : lev rest ≤ lv) (hq : R (.loop least dep (.bin s l r)) rest q) : R (.level least dep) (a ++ .mark s :: (b ++ rest)) q := by
  refine ha least dep _ q hl hc (by lia) (by show levelOf s ≤ _; lia) ?_
  exact .more hs hc hl (hb (lv + 1) dep rest _ (by lia) (Nat.le_refl _) (by lia) (by lia) (.stop (by push_cast; lia))) hq
theorem top_ge (t : T) (c : Nat) (hc : c ≤ 4) : (c : Int) ≤ topL t c := by
  unfold topL
  split <;> lia
theorem lv_three {s : List Nat} {lv : Nat} (h : levelOf s = (lv : Int)) : lv ≤ 3 := by have := level_le s; lia
theorem tx_read {t : T} {c : Nat} {l : List Lx} {k : Nat} (h : Tx t c l k) : c ≤ 4 → Rd t c l k ∧ ((c : Int) > lvT t ∨ (∀ s l r, t ≠ .bin s l r) → Rp t l k) := by
  induction h with
  | @num n w c hw =>
    intro _
    have q : Rp (.num n) [.num w] 0 := fun dep rest hd => by subst hw; exact .num (by lia)
    exact ⟨rd_of q, fun _ => q⟩
  | @sym s c hs =>
    intro _
    have q : Rp (.sym s) [.name s] 0 := fun dep rest hd => .sym (by lia) hs
    exact ⟨rd_of q, fun _ => q⟩
  | @here c =>
    intro _
    have q : Rp .here [.name [46]] 0 := fun dep rest hd => .here (by lia)
    exact ⟨rd_of q, fun _ => q⟩
  | @hereP c =>
    intro _
    have q : Rp .here [mO, .name [46], mC] 1 := fun dep rest hd => .par (by lia) (.level (.here (by lia)) (.stop (by show levelOf [41] < ((1 : Nat) : Int); decide)))
    exact ⟨rd_of q, fun _ => q⟩
  | @un s t c l k hs _ ih =>
    intro _
    have p := (ih (Nat.le_refl _)).2
    have q : Rp (.un s t) (.mark s :: l) (k + 1) := fun dep rest hd => by
      refine .un (by lia) hs (p ?_ (dep + 1) rest (by lia))
      cases t with
      | bin s l r => exact .inl (by show (4 : Int) > levelOf s; have := level_le s; lia)
      | _ => exact .inr fun _ _ _ e => by cases e
    exact ⟨rd_of q, fun _ => q⟩
  | @bin s l r c a b i j lv hs h1 _ _ hc ih1 ih2 =>
    intro _
    have h3 := lv_three hs
    refine ⟨fun least dep rest q hl hlc hd hv hq => ?_, fun h => ?_⟩
    · have e : topL (.bin s l r) c = lv := by unfold topL; rw [if_neg (by show ¬ levelOf s < _; lia)]; exact hs
      rw [e] at hv
      rw [List.append_assoc, List.cons_append]
      exact rd_bin hs h1 h3 (ih1 (by lia)).1 (ih2 (by lia)).1 (top_ge _ _ (by lia)) (by have := top_ge r (lv + 1) (by lia); push_cast at this; exact this) hl (by lia) hd hv hq
    · rcases h with h | h
      · have : (c : Int) > levelOf s := h; lia
      · exact absurd rfl (h s l r)
  | @binP s l r c a b i j lv hs h1 _ _ hc ih1 ih2 =>
    intro _
    have h3 := lv_three hs
    have q : Rp (.bin s l r) (mO :: (a ++ .mark s :: (b ++ [mC]))) (max i j + 1) := fun dep rest hd => by
      have e : (mO :: (a ++ .mark s :: (b ++ [mC]))) ++ rest = mO :: (a ++ .mark s :: (b ++ (mC :: rest))) := by simp
      rw [e]
      refine .par (t := .bin s l r) (by lia) ?_
      have z : lev (mC :: rest) = 0 := by show levelOf [41] = 0; decide
      exact rd_bin hs h1 h3 (ih1 (by lia)).1 (ih2 (by lia)).1 (top_ge _ _ (by lia)) (by have := top_ge r (lv + 1) (by lia); push_cast at this; exact this) (Nat.le_refl _) h1 (by lia) (by show lev (mC :: rest) ≤ _; rw [z]; lia) (.stop (by show lev (mC :: rest) < _; rw [z]; decide))
    exact ⟨rd_of q, fun _ => q⟩
/-- the whole is read, and what is behind a lower sign stays -/
theorem tx_whole {t : T} {l : List Lx} {k : Nat} (h : Tx t 1 l k) {dep : Nat} {rest : List Lx} (hd : dep + k ≤ 10) (hr : lev rest < 1) : R (.level 1 dep) (l ++ rest) (some (t, rest)) :=
  (tx_read h (by decide)).1 1 dep rest _ (Nat.le_refl _) (Nat.le_refl _) hd (by have := top_ge t 1 (by decide); push_cast at this; lia) (.stop (by push_cast; exact hr))
theorem star_part {t : T} {l : List Lx} {k least dep : Nat} (h : Rp t l k) (h1 : 1 ≤ least) (h3 : least ≤ 3) (hd : dep + k ≤ 10) : R (.level least dep) (l ++ [.mark [42]]) none :=
  .level (h dep _ hd) (.morex (lv := 3) (by decide) h3 h1 (.levelx (.done (by lia))))
/-- a sign behind, with nothing to its right -/
theorem tx_star {t : T} {c : Nat} {l : List Lx} {k : Nat} (h : Tx t c l k) : c ≤ 4 → ∀ least dep : Nat, 1 ≤ least → least ≤ c → least ≤ 3 → dep + k ≤ 10 → R (.level least dep) (l ++ [.mark [42]]) none := by
  induction h with
  | num hw => exact fun hc least dep h1 _ h3 hd => star_part ((tx_read (.num (c := 4) hw) (Nat.le_refl _)).2 (.inr fun _ _ _ e => by cases e)) h1 h3 hd
  | sym hs => exact fun hc least dep h1 _ h3 hd => star_part ((tx_read (.sym (c := 4) hs) (Nat.le_refl _)).2 (.inr fun _ _ _ e => by cases e)) h1 h3 hd
  | here => exact fun hc least dep h1 _ h3 hd => star_part ((tx_read (.here (c := 4)) (Nat.le_refl _)).2 (.inr fun _ _ _ e => by cases e)) h1 h3 hd
  | hereP => exact fun hc least dep h1 _ h3 hd => star_part ((tx_read (.hereP (c := 4)) (Nat.le_refl _)).2 (.inr fun _ _ _ e => by cases e)) h1 h3 hd
  | un hs ht _ => exact fun hc least dep h1 _ h3 hd => star_part ((tx_read (.un (c := 4) hs ht) (Nat.le_refl _)).2 (.inr fun _ _ _ e => by cases e)) h1 h3 hd
  | @bin s l r c a b i j lv hs h1 hl hr hc ih1 ih2 =>
    intro hc4 least dep hl1 hlc hl3 hd
    have h3 := lv_three hs
    rw [List.append_assoc, List.cons_append]
    refine (tx_read hl (by lia)).1 least dep _ _ hl1 (by lia) (by lia) (by show levelOf s ≤ _; have := top_ge l lv (by lia); lia) ?_
    by_cases q : lv + 1 ≤ 3
    · exact .morex hs (by lia) hl1 (ih2 (by lia) (lv + 1) dep (by lia) (Nat.le_refl _) q (by lia))
    · obtain rfl : lv = 3 := by lia
      have z : lev [Lx.mark [42]] = 3 := by show levelOf [42] = 3; decide
      refine .more hs (by lia) hl1 ((tx_read hr (by lia)).1 4 dep [.mark [42]] _ (by lia) (Nat.le_refl _) (by lia) (by rw [z]; have q4 : (4 : Int) ≤ topL r (3 + 1) := top_ge r (3 + 1) (by lia); lia) (.stop (by rw [z]; decide))) ?_
      exact .morex (lv := 3) (by decide) (by lia) hl1 (.levelx (.done (by lia)))
  | @binP s l r c a b i j lv hs h1 hl hr hc ih1 ih2 =>
    exact fun hc least dep h1' hlc h3 hd => star_part ((tx_read (.binP hs h1 hl hr ‹_›) ‹_›).2 (.inl (by show (_ : Int) > levelOf s; lia))) h1' h3 hd
end Mine
end
section
namespace Mine
/-! numerals -/
noncomputable def dg (n : Nat) : List Nat := (Nat.toDigits 10 n).map Char.toNat
theorem dec_nat (n : Nat) : dec (n : Int) = dg n := by
  show ((Nat.repr n).toList).map Char.toNat = _
  rw [Nat.repr_eq_ofList_toDigits, String.toList_ofList]; rfl
theorem dg_char {n : Nat} (h : n < 10) : (Nat.digitChar n).toNat = 48 + n := by
  revert n; decide
theorem dg_small {n : Nat} (h : n < 10) : dg n = [48 + n] := by
  unfold dg; rw [Nat.toDigits_of_lt_base h, List.map_cons, List.map_nil, dg_char h]
theorem dg_step {n : Nat} (h : 10 ≤ n) : dg n = dg (n / 10) ++ [48 + n % 10] := by
  unfold dg; rw [Nat.toDigits_of_base_le (by decide) h, List.map_append, List.map_cons, List.map_nil, dg_char (Nat.mod_lt _ (by decide))]
theorem dg_ind {P : Nat → Prop} (h1 : ∀ n, n < 10 → P n) (h2 : ∀ n, 10 ≤ n → P (n / 10) → P n) (n : Nat) : P n := by
  induction n using Nat.strongRecOn with
  | ind n ih =>
    by_cases h : n < 10
    · exact h1 n h
    · exact h2 n (by lia) (ih (n / 10) (by lia))
theorem worth_snoc (w : Int) (a : List Nat) (c : Nat) : worthFrom w (a ++ [c]) = worthFrom w a * 10 + ((c : Int) - 48) := by
  unfold worthFrom; rw [List.foldl_append]; rfl
theorem dg_worth (n : Nat) : worthFrom 0 (dg n) = n := by
  refine dg_ind (P := fun n => worthFrom 0 (dg n) = n) (fun n h => ?_) (fun n h ih => ?_) n
  · rw [dg_small h]
    show (0 : Int) * 10 + (((48 + n : Nat) : Int) - 48) = n
    push_cast; lia
  · rw [dg_step h, worth_snoc, ih]
    push_cast; lia
theorem dg_dig (n : Nat) : ∀ c ∈ dg n, isDigit c := by
  refine dg_ind (P := fun n => ∀ c ∈ dg n, isDigit c) (fun n h => ?_) (fun n h ih => ?_) n
  · rw [dg_small h]; intro c hc
    obtain rfl := List.mem_singleton.mp hc
    unfold isDigit; lia
  · rw [dg_step h]; intro c hc
    rcases List.mem_append.mp hc with hc | hc
    · exact ih c hc
    · obtain rfl := List.mem_singleton.mp hc
      unfold isDigit; lia
theorem dg_ne (n : Nat) : dg n ≠ [] := by
  refine dg_ind (P := fun n => dg n ≠ []) (fun n h => ?_) (fun n h ih => ?_) n
  · rw [dg_small h]; exact List.cons_ne_nil _ _
  · rw [dg_step h]; simp
theorem dg_head (n : Nat) : 1 ≤ n → (dg n)[0]? ≠ some 48 := by
  refine dg_ind (P := fun n => 1 ≤ n → (dg n)[0]? ≠ some 48) (fun n h h1 => ?_) (fun n h ih h1 => ?_) n
  · rw [dg_small h]; intro e; injection e with e; lia
  · rw [dg_step h, List.getElem?_append_left (List.length_pos_iff.mpr (dg_ne _))]
    exact ih (by lia)
theorem dg_len {n : Nat} (h : n < 18446744073709551616) : (dg n).length ≤ 20 := by
  unfold dg
  rw [List.length_map, Nat.length_toDigits_le_iff (by decide) (by decide)]
  exact Nat.lt_trans h (by decide)
theorem dec_ok {i : Int} (h : 0 ≤ i ∧ i < 18446744073709551616) : Numeral (dec i) ∧ worthFrom 0 (dec i) = i ∧ (dec i).length ≤ 20 := by
  obtain ⟨n, rfl⟩ : ∃ n : Nat, i = n := ⟨i.toNat, by lia⟩
  rw [dec_nat]
  have hl := dg_len (n := n) (by lia)
  refine ⟨⟨dg_dig n, dg_ne n, ?_, by lia⟩, dg_worth n, hl⟩
  by_cases q : 1 ≤ n
  · exact .inr (dg_head n q)
  · obtain rfl : n = 0 := by lia
    exact .inl (by rw [dg_small (by decide)]; decide)
end Mine
end
section
namespace Mine
variable {d : Nat} {ρ : Loc} {σ : Store}
/-! a text as blanks and lexemes -/
inductive Pc where
  | bl (c : Nat) | lx (x : Lx)
noncomputable def Pc.chars : Pc → List Nat
  | .bl c => [c]
  | .lx x => x.word
noncomputable def flatA : List Pc → List Nat
  | [] => []
  | a :: r => a.chars ++ flatA r
noncomputable def lexA : List Pc → List Lx
  | [] => []
  | .bl _ :: r => lexA r
  | .lx x :: r => x :: lexA r
theorem flatA_app : ∀ (a b : List Pc), flatA (a ++ b) = flatA a ++ flatA b
  | [], b => rfl
  | x :: a, b => by show x.chars ++ flatA (a ++ b) = (x.chars ++ flatA a) ++ flatA b; rw [flatA_app a b, List.append_assoc]
theorem lexA_app : ∀ (a b : List Pc), lexA (a ++ b) = lexA a ++ lexA b
  | [], b => rfl
  | .bl _ :: a, b => lexA_app a b
  | .lx x :: a, b => by show x :: lexA (a ++ b) = (x :: lexA a) ++ lexA b; rw [lexA_app a b]; rfl
noncomputable def okMarks : List (List Nat) := [[40], [41], [45], [126], [33], [43], [124], [38], [94], [42], [47], [37], [60, 60], [62, 62]]
noncomputable def WordOk : Lx → Prop
  | .name w => (∃ c w', w = c :: w' ∧ beginsName c = true) ∧ ∀ c ∈ w, nameSign c = true
  | .num w => Numeral w ∧ 0 ≤ worthFrom 0 w ∧ worthFrom 0 w ≤ 18446744073709551615
  | .mark w => w ∈ okMarks
noncomputable def hard : Lx → Bool
  | .mark w => (w == [37]) || (w == [41])
  | _ => true
/-- a rest that begins with a blank, a closing bracket, or not at all -/
noncomputable def sp (rest : List Nat) : Prop := ∀ c, rest[0]? = some c → c = 32 ∨ c = 9 ∨ c = 41
noncomputable def AOk (tl : List Nat) : List Pc → Prop
  | [] => True
  | .bl c :: r => isBlank c = true ∧ AOk tl r
  | .lx x :: r => WordOk x ∧ (hard x = true → sp (flatA r ++ tl)) ∧ AOk tl r
theorem two_one {c : Nat} {rest : List Nat} (h1 : c ≠ 60) (h2 : c ≠ 62) : two (([c] ++ rest).take 2) = false := by
  unfold two
  rw [Bool.or_eq_false_iff]
  refine ⟨beq_eq_false_iff_ne.mpr fun e => ?_, beq_eq_false_iff_ne.mpr fun e => ?_⟩
  · injection e with e; exact h1 e
  · injection e with e; exact h2 e
theorem lx_mark1 {c : Nat} {rest : List Nat} (a1 : beginsName c = false) (a2 : ¬ digitV c < 10) (a3 : c ≠ 39) (a4 : c ≠ 34) (a5 : signs.contains c = true) (a6 : c ≠ 60) (a7 : c ≠ 62) (h : c = 37 → sp rest) : LxOk rest (.mark [c]) := by
  refine ⟨⟨c, [], rfl, a1, a2, a3, a4, a5, fun e x hx => ?_⟩, by rw [two_one a6 a7]; rfl⟩
  have : rest[0]? = some x := hx
  rcases h e x this with rfl | rfl | rfl <;> decide
theorem lx_ok {x : Lx} {rest : List Nat} (h : WordOk x) (hs : hard x = true → sp rest) : LxOk rest x := by
  have ns : sp rest → ∀ c, rest[0]? = some c → nameSign c = false := fun q c hc => by rcases q c hc with rfl | rfl | rfl <;> decide
  cases x with
  | name w => exact ⟨h.1, h.2, ns (hs rfl)⟩
  | num w => exact ⟨h.1, h.2.1, h.2.2, ns (hs rfl)⟩
  | mark w =>
    have h' : w ∈ okMarks := h
    unfold okMarks at h'
    simp only [List.mem_cons, List.not_mem_nil, or_false] at h'
    rcases h' with rfl | rfl | rfl | rfl | rfl | rfl | rfl | rfl | rfl | rfl | rfl | rfl | rfl | rfl
    all_goals first
      | exact lx_mark1 (by decide) (by decide) (by decide) (by decide) (by decide) (by decide) (by decide) (fun e => absurd e (by decide))
      | exact lx_mark1 (by decide) (by decide) (by decide) (by decide) (by decide) (by decide) (by decide) (fun e => hs (by decide))
      | exact ⟨⟨_, _, rfl, by decide, by decide, by decide, by decide, by decide, fun e => absurd e (by decide)⟩, rfl⟩
noncomputable def conv : List Nat → List Pc → List Item × List Nat
  | acc, [] => ([], acc)
  | acc, .bl c :: r => conv (acc ++ [c]) r
  | acc, .lx x :: r => ((acc, x) :: (conv [] r).1, (conv [] r).2)
theorem conv_ok {tl : List Nat} : ∀ (l : List Pc) (acc : List Nat), (∀ c ∈ acc, isBlank c = true) → AOk tl l →
    acc ++ flatA l = flatI (conv acc l).1 ++ (conv acc l).2 ∧ (conv acc l).1.map (·.2) = lexA l ∧ (∀ c ∈ (conv acc l).2, isBlank c = true) ∧ ItsOk ((conv acc l).2 ++ tl) (conv acc l).1
  | [], acc, h, _ => ⟨by show acc ++ [] = [] ++ acc; rw [List.append_nil, List.nil_append], rfl, h, trivial⟩
  | .bl c :: r, acc, h, ok => by
    obtain ⟨h1, h2, h3, h4⟩ := conv_ok r (acc ++ [c]) (fun x hx => by
      rcases List.mem_append.mp hx with hx | hx
      · exact h x hx
      · obtain rfl := List.mem_singleton.mp hx; exact ok.1) ok.2
    refine ⟨?_, h2, h3, h4⟩
    show acc ++ ([c] ++ flatA r) = _
    rw [← List.append_assoc]; exact h1
  | .lx x :: r, acc, h, ok => by
    obtain ⟨h1, h2, h3, h4⟩ := conv_ok r [] (fun x hx => nomatch hx) ok.2.2
    rw [List.nil_append] at h1
    refine ⟨?_, ?_, h3, h, ?_, h4⟩
    · show acc ++ (x.word ++ flatA r) = (acc ++ x.word ++ flatI (conv [] r).1) ++ (conv [] r).2
      rw [h1, List.append_assoc, List.append_assoc]
    · show x :: (conv [] r).1.map (·.2) = x :: lexA r
      rw [h2]
    · have e : flatI (conv [] r).1 ++ ((conv [] r).2 ++ tl) = flatA r ++ tl := by rw [← List.append_assoc, ← h1]
      show LxOk (flatI (conv [] r).1 ++ ((conv [] r).2 ++ tl)) x
      rw [e]
      exact lx_ok ok.1 ok.2.1
theorem mark_len {w : List Nat} (h : w ∈ okMarks) : ∀ c ∈ w, c < 1114112 := by
  have : ∀ w ∈ okMarks, ∀ c ∈ w, c < 1114112 := by decide
  exact this w h
theorem word_cps {x : Lx} (h : WordOk x) : Cps x.word := by
  have nm : ∀ c, nameSign c = true → c < 1114112 := fun c hc => by
    unfold nameSign at hc
    simp only [Bool.or_eq_true, Bool.and_eq_true, decide_eq_true_eq, beq_iff_eq, List.cons.injEq, and_true] at hc
    lia
  cases x with
  | name w => exact fun c hc => nm c (h.2 c hc)
  | num w => exact fun c hc => by have := h.1.dig c hc; unfold isDigit at this; lia
  | mark w => exact fun c hc => mark_len h c hc
theorem lex_word {tl : List Nat} : ∀ {l : List Pc}, AOk tl l → ∀ x ∈ lexA l, WordOk x
  | [], _, x, hx => nomatch hx
  | .bl _ :: r, ok, x, hx => lex_word ok.2 x hx
  | .lx y :: r, ok, x, hx => by
    rcases List.mem_cons.mp (show x ∈ y :: lexA r from hx) with rfl | hx
    · exact ok.1
    · exact lex_word ok.2.2 x hx
/-- a text of atoms is heard as its lexemes are read -/
theorem heardA {l : List Pc} {tl : List Nat} {r : Option (T × List Lx)} (ok : AOk tl l) (hn : (lexA l).length ≤ 60) (hz : (flatA l ++ tl).length ≤ 60000) (h1 : ∀ c, tl[0]? = some c → isBlank c = false) (h2 : restDone tl = true)
    (hr : R (.level 1 0) (lexA l) r) (hd : 110 ≤ d) (hd2 : d ≤ 60000) : (∃ τ, ev (d + 2) (.call 42 [.str (flatA l ++ tl)] σ) (.v (hv r) τ)) ∧ okD 60 (hv r) = true := by
  obtain ⟨c1, c2, c3, c4⟩ := conv_ok (tl := tl) l [] (fun x hx => nomatch hx) ok
  rw [List.nil_append] at c1
  have hm : (conv [] l).1.length ≤ 60 := by rw [← c2, List.length_map] at hn; exact hn
  have g : Good1 (flatA l ++ tl) (conv [] l).1 (conv [] l).2 tl := ⟨by rw [c1, List.append_assoc], hz, by lia, c3, h1, h2, c4⟩
  refine ⟨ev_heard g (by lia) (by rw [c2]; exact hr) hd hd2, ?_⟩
  have no : okD 60 noneV = true := by decide
  cases r with
  | none => exact no
  | some q =>
    obtain ⟨u, l'⟩ := q
    cases l' with
    | nil =>
      have q : ht u + 0 ≤ (lexA l).length := ht_le hr
      exact okD_tv u 60 (by lia) (wd_of (p := Cps) hr fun x hx => word_cps (lex_word ok x hx)).1
    | cons x l' => exact no
theorem cmp_hv {p : PV} {r : Option (T × List Lx)} {t : T} (hp : p = hv r) (h1 : okD 60 p = true) (h2 : okD 60 (tv t) = true) : cmpV .ne p (tv t) = some (!eqB 60 p (tv t)) ∧ cmpV .eq p (tv t) = some (eqB 60 p (tv t)) := by
  obtain ⟨a, ha⟩ : ∃ a, p = .tup a := by
    subst hp
    cases r with
    | none => exact ⟨_, rfl⟩
    | some q =>
      obtain ⟨u, l'⟩ := q
      cases l' with
      | nil => cases u <;> exact ⟨_, rfl⟩
      | cons x l' => exact ⟨_, rfl⟩
  obtain ⟨b, hb⟩ : ∃ b, tv t = .tup b := by cases t <;> exact ⟨_, rfl⟩
  rw [ha] at h1 ⊢
  rw [hb] at h2 ⊢
  constructor
  · show (if okD 60 (.tup a) && okD 60 (.tup b) then some (eqB 60 (.tup a) (.tup b)) else none).map (fun q => !q) = _
    rw [h1, h2]; rfl
  · show (if okD 60 (.tup a) && okD 60 (.tup b) then _ else _) = _
    rw [h1, h2]; rfl
end Mine
end
section
namespace Mine
/-! the law's own text, as pieces -/
theorem sp_app {u v : List Nat} (h1 : sp u) (h2 : sp v) : sp (u ++ v) := by
  cases u with
  | nil => exact h2
  | cons x u => exact fun c hc => h1 c hc
theorem aok_app {tl : List Nat} {b : List Pc} (hs : sp (flatA b ++ tl)) (hb : AOk tl b) : ∀ {a : List Pc}, AOk [] a → AOk tl (a ++ b)
  | [], _ => hb
  | .bl c :: r, ok => ⟨ok.1, aok_app hs hb ok.2⟩
  | .lx x :: r, ok => ⟨ok.1, fun h => by
      have q := ok.2.1 h
      rw [List.append_nil] at q
      show sp (flatA (r ++ b) ++ tl)
      rw [flatA_app, List.append_assoc]; exact sp_app q hs, aok_app hs hb ok.2.2⟩
theorem aok_open {tl : List Nat} {B : List Pc} : ∀ {A : List Pc}, AOk tl (A ++ .lx mO :: B) → AOk tl (A ++ B)
  | [], ok => ok.2.2
  | .bl c :: r, ok => ⟨ok.1, aok_open ok.2⟩
  | .lx x :: r, ok => ⟨ok.1, fun h => by
      have q : sp (flatA (r ++ .lx mO :: B) ++ tl) := ok.2.1 h
      show sp (flatA (r ++ B) ++ tl)
      rw [flatA_app, List.append_assoc] at q ⊢
      generalize flatA r = u at q ⊢
      cases u with
      | nil => exact absurd (q 40 rfl) (by decide)
      | cons y u => exact fun c hc => q c hc, aok_open ok.2.2⟩
theorem aok_tail {tl : List Nat} {B : List Pc} : ∀ {A : List Pc}, AOk tl (A ++ B) → AOk tl B
  | [], ok => ok
  | .bl c :: r, ok => aok_tail (A := r) ok.2
  | .lx x :: r, ok => aok_tail (A := r) ok.2.2
theorem aok_close {tl : List Nat} {B : List Pc} : ∀ {A : List Pc}, AOk tl (A ++ .lx mC :: B) → AOk tl (A ++ B)
  | [], ok => ok.2.2
  | .bl c :: r, ok => ⟨ok.1, aok_close ok.2⟩
  | .lx x :: r, ok => ⟨ok.1, fun h => by
      have q : sp (flatA (r ++ .lx mC :: B) ++ tl) := ok.2.1 h
      have q2 : sp (flatA B ++ tl) := (aok_tail (A := r) (B := .lx mC :: B) ok.2.2).2.1 rfl
      show sp (flatA (r ++ B) ++ tl)
      rw [flatA_app, List.append_assoc] at q ⊢
      generalize flatA r = u at q ⊢
      cases u with
      | nil => exact q2
      | cons y u => exact fun c hc => q c hc, aok_close ok.2.2⟩
noncomputable def pnt : Lx := .name [46]
theorem word_pnt : WordOk pnt := ⟨⟨46, [], rfl, by decide⟩, by decide⟩
theorem aok_point {tl : List Nat} {B : List Pc} : ∀ {A : List Pc}, AOk tl (A ++ .lx pnt :: B) → AOk tl (A ++ .lx mO :: .lx pnt :: .lx mC :: B)
  | [], ok => by
    have e1 : WordOk mO := by show [40] ∈ okMarks; decide
    have e2 : WordOk mC := by show [41] ∈ okMarks; decide
    have e3 : sp (flatA (.lx mC :: B) ++ tl) := fun c hc => .inr (.inr (Option.some.inj (show some 41 = some c from hc)).symm)
    exact ⟨e1, fun h => Bool.noConfusion h, word_pnt, fun _ => e3, e2, fun _ => ok.2.1 rfl, ok.2.2⟩
  | .bl c :: r, ok => ⟨ok.1, aok_point ok.2⟩
  | .lx x :: r, ok => ⟨ok.1, fun h => by
      have q : sp (flatA (r ++ .lx pnt :: B) ++ tl) := ok.2.1 h
      show sp (flatA (r ++ .lx mO :: .lx pnt :: .lx mC :: B) ++ tl)
      rw [flatA_app, List.append_assoc] at q ⊢
      generalize flatA r = u at q ⊢
      cases u with
      | nil => exact absurd (q 46 rfl) (by decide)
      | cons y u => exact fun c hc => q c hc, aok_point ok.2.2⟩

noncomputable def nms : List (List Nat) := [[97], [98], [99, 57], [95, 120, 46, 49, 36], [76]]
/-- a tree that the law may build -/
noncomputable def Val : T → Prop
  | .num n => 0 ≤ n ∧ n < 18446744073709551616
  | .sym s => s ∈ nms
  | .here => True
  | .un s t => isUn s = true ∧ Val t
  | .bin s l r => 1 ≤ levelOf s ∧ Val l ∧ Val r
noncomputable def ats : T → Int → List Pc
  | .num n, _ => [.lx (.num (dec n))]
  | .sym s, _ => [.lx (.name s)]
  | .here, _ => [.lx pnt]
  | .un s t, _ => .lx (.mark s) :: ats t 4
  | .bin s l r, c => if levelOf s < c then .lx mO :: ((ats l (levelOf s) ++ (.bl 32 :: .lx (.mark s) :: .bl 32 :: ats r (levelOf s + 1))) ++ [.lx mC])
    else ats l (levelOf s) ++ (.bl 32 :: .lx (.mark s) :: .bl 32 :: ats r (levelOf s + 1))
theorem flat_ats : ∀ (t : T) (c : Int), flatA (ats t c) = text t c
  | .num n, c => by show dec n ++ [] = dec n; rw [List.append_nil]
  | .sym s, c => by show s ++ [] = s; rw [List.append_nil]
  | .here, c => rfl
  | .un s t, c => by show s ++ flatA (ats t 4) = s ++ text t 4; rw [flat_ats t 4]
  | .bin s l r, c => by
    have e : flatA (ats l (levelOf s) ++ (.bl 32 :: .lx (.mark s) :: .bl 32 :: ats r (levelOf s + 1))) = textI s (text l (levelOf s)) (text r (levelOf s + 1)) := by
      rw [flatA_app, flat_ats l]
      show _ ++ ([32] ++ (s ++ ([32] ++ flatA (ats r _)))) = _
      rw [flat_ats r]
      unfold textI
      simp
    show flatA (if _ then _ else _) = if _ then _ else _
    split
    · show [40] ++ flatA (_ ++ [.lx mC]) = _
      rw [flatA_app, e]
      simp [flatA, Pc.chars, mC, Lx.word]
    · exact e
set_option tactic.hygienic true in
theorem lev_marks {s : List Nat} (h : 1 ≤ levelOf s) : s ∈ okMarks := by
  unfold levelOf at h
  split at h
  · rename_i q
    simp only [Bool.or_eq_true, beq_iff_eq] at q
    rcases q with rfl | rfl <;> decide
  · split at h
    · rename_i q
      simp only [Bool.or_eq_true, beq_iff_eq] at q
      rcases q with rfl | rfl | rfl <;> decide
    · split at h
      · rename_i q
        simp only [Bool.or_eq_true, beq_iff_eq] at q
        rcases q with rfl | rfl | rfl | rfl | rfl <;> decide
      · exact absurd h (by decide)
theorem un_marks {s : List Nat} (h : isUn s = true) : s ∈ okMarks ∧ s ≠ [37] ∧ s ≠ [41] ∧ s.length = 1 := by
  unfold isUn at h
  simp only [Bool.or_eq_true, beq_iff_eq] at h
  rcases h with rfl | rfl | rfl <;> decide
theorem sp32 {v : List Nat} : sp (32 :: v) := fun c hc => by cases hc; exact .inl rfl
theorem sp_nil : sp [] := fun c hc => by cases hc
theorem sp41 {v : List Nat} : sp (41 :: v) := fun c hc => by cases hc; exact .inr (.inr rfl)
theorem name_word {s : List Nat} (h : s ∈ nms) : WordOk (.name s) := by
  unfold nms at h
  simp only [List.mem_cons, List.not_mem_nil, or_false] at h
  rcases h with rfl | rfl | rfl | rfl | rfl <;> exact ⟨⟨_, _, rfl, by decide⟩, by decide⟩
theorem ok_ats : ∀ (t : T) (c : Int), Val t → AOk [] (ats t c)
  | .num n, c, h => by
    obtain ⟨h1, h2, _⟩ := dec_ok h
    exact ⟨⟨h1, by rw [h2]; exact h.1, by rw [h2]; have := h.2; lia⟩, fun _ => sp_nil, trivial⟩
  | .sym s, c, h => ⟨name_word h, fun _ => sp_nil, trivial⟩
  | .here, c, h => ⟨word_pnt, fun _ => sp_nil, trivial⟩
  | .un s t, c, h => by
    obtain ⟨h1, h2, h3, _⟩ := un_marks h.1
    refine ⟨h1, fun q => ?_, ok_ats t 4 h.2⟩
    have : ((s == [37]) || (s == [41])) = true := q
    rw [beq_eq_false_iff_ne.mpr h2, beq_eq_false_iff_ne.mpr h3] at this
    cases this
  | .bin s l r, c, h => by
    have b1 : AOk [] (.bl 32 :: .lx (.mark s) :: .bl 32 :: ats r (levelOf s + 1)) := ⟨by decide, lev_marks h.1, fun _ => sp32, by decide, ok_ats r _ h.2.2⟩
    have b2 : AOk [] [.lx mC] := ⟨by show [41] ∈ okMarks; decide, fun _ => sp_nil, trivial⟩
    have e1 : WordOk mO := by show [40] ∈ okMarks; decide
    have body : AOk [] (ats l (levelOf s) ++ (.bl 32 :: .lx (.mark s) :: .bl 32 :: ats r (levelOf s + 1))) :=
      aok_app sp32 b1 (ok_ats l _ h.2.1)
    show AOk [] (if _ then _ else _)
    split
    · exact ⟨e1, fun q => Bool.noConfusion q, aok_app (sp41 (v := [])) b2 body⟩
    · exact body
noncomputable def nl : T → Nat
  | .un _ t => nl t
  | .bin _ l r => nl l + nl r
  | _ => 1
noncomputable def nu : T → Nat
  | .un _ t => nu t + 1
  | .bin _ l r => nu l + nu r
  | _ => 0
theorem nl_pos : ∀ t : T, 1 ≤ nl t
  | .num _ => Nat.le_refl _
  | .sym _ => Nat.le_refl _
  | .here => Nat.le_refl _
  | .un _ t => nl_pos t
  | .bin _ l r => by have := nl_pos l; show 1 ≤ nl l + nl r; lia
theorem lex_bin (s : List Nat) (l r : T) (c : Int) : lexA (ats (.bin s l r) c) = if levelOf s < c then mO :: (lexA (ats l (levelOf s)) ++ .mark s :: (lexA (ats r (levelOf s + 1)) ++ [mC])) else lexA (ats l (levelOf s)) ++ .mark s :: lexA (ats r (levelOf s + 1)) := by
  show lexA (if _ then _ else _) = _
  split
  · show mO :: lexA ((_ ++ _) ++ _) = _
    rw [lexA_app, lexA_app, List.append_assoc]
    rfl
  · rw [lexA_app]; rfl
set_option tactic.hygienic true in
theorem tx_ats : ∀ (t : T) (c : Nat), Val t → ∃ k, Tx t c (lexA (ats t c)) k ∧ k + 1 ≤ nl t + nu t
  | .num n, c, h => ⟨0, .num (dec_ok h).2.1, by show 0 + 1 ≤ 1 + 0; lia⟩
  | .sym s, c, h => ⟨0, .sym (fun e => by subst e; exact absurd (show [46] ∈ nms from h) (by decide)), by show 0 + 1 ≤ 1 + 0; lia⟩
  | .here, c, h => ⟨0, .here, by show 0 + 1 ≤ 1 + 0; lia⟩
  | .un s t, c, h => by
    obtain ⟨k, h1, h2⟩ := tx_ats t 4 h.2
    exact ⟨k + 1, .un h.1 h1, by show k + 1 + 1 ≤ nl t + (nu t + 1); lia⟩
  | .bin s l r, c, h => by
    obtain ⟨lv, hlv⟩ : ∃ lv : Nat, levelOf s = (lv : Int) := ⟨(levelOf s).toNat, by have := level_nn s; lia⟩
    have h1 : 1 ≤ lv := by have := h.1; lia
    obtain ⟨i, a1, a2⟩ := tx_ats l lv h.2.1
    obtain ⟨j, b1, b2⟩ := tx_ats r (lv + 1) h.2.2
    have := nl_pos l
    have := nl_pos r
    rw [lex_bin, hlv]
    push_cast at b1
    split
    · rename_i q
      exact ⟨max i j + 1, .binP hlv h1 a1 b1 (by lia), by show max i j + 1 + 1 ≤ (nl l + nl r) + (nu l + nu r); lia⟩
    · rename_i q
      exact ⟨max i j, .bin hlv h1 a1 b1 (by lia), by show max i j + 1 ≤ (nl l + nl r) + (nu l + nu r); lia⟩
theorem nOpen_app : ∀ (a b : List Lx), nOpen (a ++ b) = nOpen a + nOpen b
  | [], b => by show nOpen b = 0 + nOpen b; lia
  | .mark w :: a, b => by show _ + nOpen (a ++ b) = (_ + nOpen a) + nOpen b; rw [nOpen_app a b]; lia
  | .name w :: a, b => nOpen_app a b
  | .num w :: a, b => nOpen_app a b
theorem nOpen_ats : ∀ (t : T) (c : Int), Val t → nOpen (lexA (ats t c)) = cnt t c
  | .num n, c, h => rfl
  | .sym s, c, h => rfl
  | .here, c, h => rfl
  | .un s t, c, h => by
    show (if s = [40] then 1 else 0) + nOpen (lexA (ats t 4)) = cnt t 4
    rw [if_neg (un_ne h.1), nOpen_ats t 4 h.2]; lia
  | .bin s l r, c, h => by
    have ne : s ≠ [40] := fun e => by subst e; exact absurd h.1 (by decide)
    rw [lex_bin]
    show _ = cnt l _ + cnt r _ + _
    rw [← nOpen_ats l _ h.2.1, ← nOpen_ats r _ h.2.2]
    split
    · show 1 + nOpen (_ ++ _) = _
      rw [nOpen_app]
      show 1 + (_ + ((if s = [40] then 1 else 0) + nOpen (_ ++ [mC]))) = _
      rw [nOpen_app, if_neg ne]
      show 1 + (_ + (0 + (_ + 0))) = _
      lia
    · rw [nOpen_app]
      show _ + ((if s = [40] then 1 else 0) + _) = _
      rw [if_neg ne]; lia
/-- how long the texts are -/
theorem text_len : ∀ (t : T) (c : Int), Val t → (text t c).length + 6 ≤ 26 * nl t + nu t
  | .num n, c, h => by have := (dec_ok h).2.2; show (dec n).length + 6 ≤ 26 * 1 + 0; lia
  | .sym s, c, h => by
    have : ∀ s ∈ nms, s.length ≤ 5 := by decide
    have := this s h
    show s.length + 6 ≤ 26 * 1 + 0; lia
  | .here, c, h => by show 1 + 6 ≤ 26 * 1 + 0; lia
  | .un s t, c, h => by
    have := text_len t 4 h.2
    have := (un_marks h.1).2.2.2
    show (s ++ text t 4).length + 6 ≤ 26 * nl t + (nu t + 1)
    rw [List.length_append]; lia
  | .bin s l r, c, h => by
    have := text_len l (levelOf s) h.2.1
    have := text_len r (levelOf s + 1) h.2.2
    have : ∀ s ∈ okMarks, s.length ≤ 2 := by decide
    have := this s (lev_marks h.1)
    show (if _ then _ else _ : List Nat).length + 6 ≤ 26 * (nl l + nl r) + (nu l + nu r)
    unfold textI
    split <;> simp only [List.length_append, List.length_cons, List.length_nil] <;> lia
theorem lex_len : ∀ (t : T) (c : Int), (lexA (ats t c)).length + 3 ≤ 4 * nl t + nu t
  | .num n, c => by show 1 + 3 ≤ 4 * 1 + 0; lia
  | .sym s, c => by show 1 + 3 ≤ 4 * 1 + 0; lia
  | .here, c => by show 1 + 3 ≤ 4 * 1 + 0; lia
  | .un s t, c => by
    have := lex_len t 4
    show (lexA (ats t 4)).length + 1 + 3 ≤ 4 * nl t + (nu t + 1); lia
  | .bin s l r, c => by
    have := lex_len l (levelOf s)
    have := lex_len r (levelOf s + 1)
    show _ ≤ 4 * (nl l + nl r) + (nu l + nu r)
    rw [lex_bin]
    split <;> simp only [List.length_append, List.length_cons, List.length_nil] <;> lia
theorem ht_nl : ∀ t : T, ht t ≤ nl t + nu t
  | .num _ => by show 1 ≤ 1 + 0; lia
  | .sym _ => by show 1 ≤ 1 + 0; lia
  | .here => by show 1 ≤ 1 + 0; lia
  | .un _ t => by have := ht_nl t; show ht t + 1 ≤ nl t + (nu t + 1); lia
  | .bin _ l r => by have := ht_nl l; have := ht_nl r; have := nl_pos l; have := nl_pos r; show max (ht l) (ht r) + 1 ≤ (nl l + nl r) + (nu l + nu r); lia
theorem val_wd : ∀ t : T, Val t → Wd Cps t ∧ Nums t ∧ Signs t
  | .num _, h => ⟨trivial, h, trivial⟩
  | .sym s, h => ⟨word_cps (name_word h), trivial, trivial⟩
  | .here, _ => ⟨trivial, trivial, trivial⟩
  | .un s t, h => have q := val_wd t h.2; ⟨⟨mark_len (un_marks h.1).1, q.1⟩, q.2.1, q.2.2⟩
  | .bin s l r, h => have q := val_wd l h.2.1; have q' := val_wd r h.2.2; ⟨⟨mark_len (lev_marks h.1), q.1, q'.1⟩, ⟨q.2.1, q'.2.1⟩, h.1, q.2.2, q'.2.2⟩
end Mine
end
section
namespace Mine
/-! places in a text -/
theorem at_piece : ∀ {l : List Pc} {i c : Nat}, (flatA l)[i]? = some c → ∃ A a B k, l = A ++ a :: B ∧ i = (flatA A).length + k ∧ a.chars[k]? = some c
  | [], i, c, h => by cases h
  | a :: r, i, c, h => by
    have h' : (a.chars ++ flatA r)[i]? = some c := h
    by_cases q : i < a.chars.length
    · rw [List.getElem?_append_left q] at h'
      exact ⟨[], a, r, i, rfl, by show i = 0 + i; lia, h'⟩
    · rw [List.getElem?_append_right (by lia)] at h'
      obtain ⟨A, b, B, k, h1, h2, h3⟩ := at_piece h'
      exact ⟨a :: A, b, B, k, by rw [h1]; rfl, by show i = (a.chars ++ flatA A).length + k; rw [List.length_append]; lia, h3⟩
theorem aok_mem {tl : List Nat} {a : Pc} {B : List Pc} : ∀ {A : List Pc}, AOk tl (A ++ a :: B) → match a with | .bl c => isBlank c = true | .lx x => WordOk x
  | [], ok => by cases a <;> exact ok.1
  | .bl c :: r, ok => aok_mem (A := r) ok.2
  | .lx x :: r, ok => aok_mem (A := r) ok.2.2
theorem marks_plain : okMarks.all (fun w => w == [40] || (w == [41] || w.all fun c => !([40, 41, 46].contains c))) = true := by decide
theorem one_at {e k c : Nat} (h : ([e] : List Nat)[k]? = some c) : c = e ∧ k = 0 := by
  cases k with
  | zero => cases h; exact ⟨rfl, rfl⟩
  | succ k => cases h
theorem mark_char {w : List Nat} (h : w ∈ okMarks) (k : Nat) : (w[k]? = some 40 → w = [40] ∧ k = 0) ∧ (w[k]? = some 41 → w = [41] ∧ k = 0) ∧ w[k]? ≠ some 46 := by
  have q := List.all_eq_true.mp marks_plain w h
  rcases (Bool.or_eq_true _ _).mp q with q | q
  · cases beq_iff_eq.mp q
    exact ⟨fun e => ⟨rfl, (one_at e).2⟩, fun e => absurd (one_at e).1 (by decide), fun e => absurd (one_at e).1 (by decide)⟩
  rcases (Bool.or_eq_true _ _).mp q with q | q
  · cases beq_iff_eq.mp q
    exact ⟨fun e => absurd (one_at e).1 (by decide), fun e => ⟨rfl, (one_at e).2⟩, fun e => absurd (one_at e).1 (by decide)⟩
  have n : ∀ c, w[k]? = some c → [40, 41, 46].contains c = false := fun c e => by
    have := List.all_eq_true.mp q c (List.mem_of_getElem? e)
    exact (Bool.not_eq_true' _).mp this
  exact ⟨fun e => absurd (n _ e) (by decide), fun e => absurd (n _ e) (by decide), fun e => absurd (n _ e) (by decide)⟩
/-- where a bracket stands -/
theorem at_bracket {tl : List Nat} {l : List Pc} {i c : Nat} (ok : AOk tl l) (hc : c = 40 ∨ c = 41) (h : (flatA l)[i]? = some c) : ∃ A B, l = A ++ .lx (.mark [c]) :: B ∧ i = (flatA A).length := by
  obtain ⟨A, a, B, k, rfl, h2, h3⟩ := at_piece h
  have m := aok_mem ok
  have nn : nameSign c = false := by rcases hc with rfl | rfl <;> decide
  cases a with
  | bl x =>
    have m : isBlank x = true := m
    have : x = c := by
      have h3' : ([x] : List Nat)[k]? = some c := h3
      cases k with
      | zero => exact Option.some.inj h3'
      | succ k => cases h3'
    subst this
    rcases hc with rfl | rfl <;> cases m
  | lx x =>
    have h3' : x.word[k]? = some c := h3
    cases x with
    | name w => have q := (show WordOk (.name w) from m).2 c (List.mem_of_getElem? h3'); rw [nn] at q; cases q
    | num w =>
      have q := (show WordOk (.num w) from m).1.dig c (List.mem_of_getElem? h3')
      unfold isDigit at q; lia
    | mark w =>
      have q := mark_char (show w ∈ okMarks from m) k
      rcases hc with rfl | rfl
      · obtain ⟨rfl, rfl⟩ := q.1 h3'; exact ⟨A, B, rfl, by lia⟩
      · obtain ⟨rfl, rfl⟩ := q.2.1 h3'; exact ⟨A, B, rfl, by lia⟩
/-- where a point stands: a word of its own, or within a name -/
theorem at_dot {tl : List Nat} {l : List Pc} {i : Nat} (ok : AOk tl l) (hn : ∀ w, Lx.name w ∈ lexA l → w = [46] ∨ w ∈ nms) (h : (flatA l)[i]? = some 46) :
    (∃ A B, l = A ++ .lx pnt :: B ∧ i = (flatA A).length) ∨ ∃ c, 1 ≤ i ∧ (flatA l)[i - 1]? = some c ∧ nameSign c = true := by
  obtain ⟨A, a, B, k, rfl, h2, h3⟩ := at_piece h
  have m := aok_mem ok
  cases a with
  | bl x =>
    have m : isBlank x = true := m
    have : x = 46 := by
      have h3' : ([x] : List Nat)[k]? = some 46 := h3
      cases k with
      | zero => exact Option.some.inj h3'
      | succ k => cases h3'
    subst this
    cases m
  | lx x =>
    have h3' : x.word[k]? = some 46 := h3
    cases x with
    | num w =>
      have q := (show WordOk (.num w) from m).1.dig 46 (List.mem_of_getElem? h3')
      unfold isDigit at q; lia
    | mark w => exact absurd h3' (mark_char (show w ∈ okMarks from m) k).2.2
    | name w =>
      have m : WordOk (.name w) := m
      cases k with
      | zero =>
        rcases hn w (by rw [lexA_app]; exact List.mem_append.mpr (.inr (.head _))) with rfl | hw
        · exact .inl ⟨A, B, rfl, by lia⟩
        · exact absurd h3' ((show ∀ w ∈ nms, w[0]? ≠ some 46 by decide) w hw)
      | succ k =>
        refine .inr ?_
        have hk : k + 1 < w.length := (List.getElem?_eq_some_iff.mp h3').1
        obtain ⟨c, hc⟩ : ∃ c, w[k]? = some c := ⟨w[k], List.getElem?_eq_getElem (by lia)⟩
        refine ⟨c, by lia, ?_, m.2 c (List.mem_of_getElem? hc)⟩
        rw [flatA_app, List.getElem?_append_right (by lia)]
        show (w ++ flatA B)[_]? = _
        rw [List.getElem?_append_left (by lia), show i - 1 - (flatA A).length = k from by lia]
        exact hc
theorem names_ats : ∀ (t : T) (c : Int), Val t → ∀ w, Lx.name w ∈ lexA (ats t c) → w = [46] ∨ w ∈ nms
  | .num n, c, h, w, hw => by cases List.mem_singleton.mp hw
  | .sym s, c, h, w, hw => by cases List.mem_singleton.mp hw; exact .inr h
  | .here, c, h, w, hw => by cases List.mem_singleton.mp hw; exact .inl rfl
  | .un s t, c, h, w, hw => by
    rcases List.mem_cons.mp (show Lx.name w ∈ .mark s :: lexA (ats t 4) from hw) with e | hw
    · cases e
    · exact names_ats t 4 h.2 w hw
  | .bin s l r, c, h, w, hw => by
    have hl := names_ats l (levelOf s) h.2.1 w
    have hr := names_ats r (levelOf s + 1) h.2.2 w
    rw [lex_bin] at hw
    split at hw
    · simp only [mO, mC, List.mem_cons, List.mem_append, List.not_mem_nil, or_false, reduceCtorEq, false_or] at hw
      exact hw.elim hl hr
    · simp only [List.mem_cons, List.mem_append, reduceCtorEq, false_or] at hw
      exact hw.elim hl hr

/-! the brackets of a text are balanced -/
noncomputable def bal : List Nat → Int
  | [] => 0
  | c :: r => (if c = 40 then 1 else if c = 41 then -1 else 0) + bal r
theorem bal_app : ∀ (a b : List Nat), bal (a ++ b) = bal a + bal b
  | [], b => by show bal b = 0 + bal b; lia
  | c :: a, b => by show _ + bal (a ++ b) = (_ + bal a) + bal b; rw [bal_app a b]; lia
noncomputable def Bal (l : List Nat) : Prop := bal l = 0 ∧ ∀ p q, l = p ++ q → bal q ≤ 0
theorem Bal.app {a b : List Nat} (ha : Bal a) (hb : Bal b) : Bal (a ++ b) := by
  refine ⟨by rw [bal_app, ha.1, hb.1]; rfl, fun p q e => ?_⟩
  rcases List.append_eq_append_iff.mp e with ⟨s, rfl, h2⟩ | ⟨s, rfl, h2⟩
  · exact hb.2 s q h2
  · subst h2
    rw [bal_app, hb.1]
    have := ha.2 p s rfl
    lia
theorem Bal.free : ∀ {l : List Nat}, (∀ c ∈ l, c ≠ 40 ∧ c ≠ 41) → Bal l := by
  have z : ∀ {l : List Nat}, (∀ c ∈ l, c ≠ 40 ∧ c ≠ 41) → bal l = 0 := by
    intro l
    induction l with
    | nil => exact fun _ => rfl
    | cons c r ih =>
      intro h
      have := h c (.head _)
      show (if c = 40 then 1 else if c = 41 then -1 else 0) + bal r = 0
      rw [if_neg this.1, if_neg this.2, ih fun x hx => h x (.tail _ hx)]; rfl
  intro l h
  exact ⟨z h, fun p q e => by subst e; rw [z fun c hc => h c (List.mem_append.mpr (.inr hc))]; exact Int.le_refl _⟩
theorem Bal.pair {l : List Nat} (h : Bal l) : Bal ([40] ++ l ++ [41]) := by
  have e1 : bal [40] = 1 := rfl
  have e2 : bal [41] = -1 := rfl
  refine ⟨by rw [bal_app, bal_app, h.1]; rfl, fun p q e => ?_⟩
  cases p with
  | nil =>
    have : q = [40] ++ l ++ [41] := e.symm
    rw [this, bal_app, bal_app, h.1]; decide
  | cons x p =>
    have e' : l ++ [41] = p ++ q := by
      have := e
      rw [List.append_assoc] at this
      exact (List.cons.inj this).2
    rcases List.append_eq_append_iff.mp e' with ⟨s, rfl, h2⟩ | ⟨s, rfl, h2⟩
    · have := (Bal.free (l := []) (fun c hc => nomatch hc)).1
      cases s with
      | nil => rw [← (show [41] = q from h2)]; decide
      | cons y s =>
        have : s ++ q = [] := (List.cons.inj h2).2.symm
        rw [(List.append_eq_nil_iff.mp this).2]; decide
    · subst h2
      rw [bal_app]
      have := h.2 p s rfl
      lia
theorem no_br {x : Lx} (h : WordOk x) (h1 : x ≠ mO) (h2 : x ≠ mC) : ∀ c ∈ x.word, c ≠ 40 ∧ c ≠ 41 := by
  intro c hc
  cases x with
  | name w => have q := h.2 c hc; exact ⟨fun e => (by subst e; exact Bool.noConfusion q), fun e => (by subst e; exact Bool.noConfusion q)⟩
  | num w => have q := h.1.dig c hc; unfold isDigit at q; lia
  | mark w =>
    obtain ⟨k, hk⟩ := List.getElem?_of_mem hc
    have q := mark_char (show w ∈ okMarks from h) k
    refine ⟨fun e => ?_, fun e => ?_⟩
    · subst e; obtain ⟨rfl, _⟩ := q.1 hk; exact h1 rfl
    · subst e; obtain ⟨rfl, _⟩ := q.2.1 hk; exact h2 rfl
theorem bal_text : ∀ (t : T) (c : Int), Val t → Bal (text t c)
  | .num n, c, h => Bal.free fun x hx => by have := (dec_ok h).1.dig x hx; unfold isDigit at this; lia
  | .sym s, c, h => Bal.free (no_br (x := .name s) (name_word h) (fun e => by cases e) fun e => by cases e)
  | .here, c, h => (Bal.free (by decide) : Bal [46])
  | .un s t, c, h => by
    have := h.1
    refine Bal.app (Bal.free (no_br (x := .mark s) (un_marks h.1).1 (fun e => ?_) fun e => ?_)) (bal_text t 4 h.2)
    · injection e with e; exact un_ne h.1 e
    · injection e with e; exact (un_marks h.1).2.2.1 e
  | .bin s l r, c, h => by
    have hs : Bal s := Bal.free (no_br (x := .mark s) (lev_marks h.1) (fun e => by injection e with e; subst e; exact absurd h.1 (by decide)) fun e => by injection e with e; subst e; exact absurd h.1 (by decide))
    have h32 : Bal [32] := Bal.free (by decide)
    have body : Bal (textI s (text l (levelOf s)) (text r (levelOf s + 1))) := ((((bal_text l _ h.2.1).app h32).app hs).app h32).app (bal_text r _ h.2.2)
    show Bal (if _ then _ else _)
    split
    · exact body.pair
    · exact body
end Mine
end
section
namespace Mine
variable {d : Nat} {ρ : Loc} {σ : Store}
/-! a text without one pair of its brackets -/
noncomputable def seqV (n : Nat) : Nat → List PV
  | 0 => []
  | m + 1 => .int n :: seqV (n + 1) m
theorem rng_seq : ∀ (m n : Nat) (b : Int), b = (n : Int) + m → rngL n b = seqV n m
  | 0, n, b, h => by unfold rngL; rw [show (b - n).toNat = 0 from by lia]; rfl
  | m + 1, n, b, h => by
    have ih := rng_seq m (n + 1) b (by lia)
    unfold rngL at ih ⊢
    rw [show (b - n).toNat = m + 1 from by lia, List.range_succ_eq_map, List.map_cons, List.map_map]
    rw [show (b - ((n + 1 : Nat) : Int)).toNat = m from by lia] at ih
    show PV.int (n + ((0 : Nat) : Int)) :: _ = .int n :: seqV (n + 1) m
    rw [← ih, show ((n : Int) + ((0 : Nat) : Int)) = n from by lia]
    refine congrArg _ (List.map_congr_left fun k _ => ?_)
    show PV.int (n + ((k + 1 : Nat) : Int)) = .int (((n + 1 : Nat) : Int) + k)
    rw [show (n : Int) + ((k + 1 : Nat) : Int) = ((n + 1 : Nat) : Int) + k from by lia]
theorem bi_range1 {b : Int} (h : 0 ≤ b ∧ b < 65536) : biV σ .range [.int b] = some (.rng 0 b) := if_pos h
theorem bi_range2 {a b : Int} (h : 0 ≤ a ∧ a < 65536 ∧ 0 ≤ b ∧ b < 65536) : biV σ .range [.int a, .int b] = some (.rng a b) := if_pos h
theorem src_rng {a b : Int} (h : 0 ≤ a ∧ a < 65536 ∧ 0 ≤ b ∧ b < 65536) : srcOf σ (.rng a b) = some (.vals (rngL a b)) := if_pos h
theorem one_asg {i : Nat} {e : E} {v : PV} {σ' : Store} (h : ev d (.e e ρ σ) (.v v σ')) : ev d (.ss [.asg i e] ρ σ) (.fl .next (ρ.set i (some v)) σ') := by
  refine ss_next (do_asg h) ?_; exact ev_ss_nil
noncomputable def woRet : E := .bop .add (.bop .add (.slTo (.loc 0) (.loc 1)) (.sl2 (.loc 0) (.bop .add (.loc 1) (.int 1)) (.loc 3))) (.slFrom (.loc 0) (.bop .add (.loc 3) (.int 1)))
noncomputable def woBody : List S := [.ife (.cmp (.sub (.loc 0) (.loc 3)) .eq (.str [40])) [.asg 2 (.bop .add (.loc 2) (.int 1))] [], .ife (.cmp (.sub (.loc 0) (.loc 3)) .eq (.str [41])) [.asg 2 (.bop .sub (.loc 2) (.int 1))] [], .ife (.cmp (.loc 2) .eq (.int 0)) [.ret woRet] []]
noncomputable def brV (c : Nat) : Int := if c = 40 then 1 else if c = 41 then -1 else 0
theorem wo_char {t : List Nat} {a k : Int} {j c : Nat} {e : Nat} (hc : t[j]? = some c) (hz : t.length ≤ 60000) :
    ev d (.e (.cmp (.sub (.loc 0) (.loc 3)) .eq (.str [e])) [some (.str t), some (.int a), some (.int k), some (.int j)] σ) (.v (.bool ([c] == [e])) σ) :=
  is_cmp (is_sub (is_loc (v := .str t) rfl) (is_loc (v := .int j) rfl) (sub_at hc (by lia))) ev_e_str (cmp_eqs [c] [e])
theorem wo_count {t : List Nat} {a k : Int} {j c : Nat} (hc : t[j]? = some c) (hz : t.length ≤ 60000) :
    (∀ {oo}, ev d (.ss [.ife (.cmp (.loc 2) .eq (.int 0)) [.ret woRet] []] [some (.str t), some (.int a), some (.int (k + brV c)), some (.int j)] σ) oo → ev d (.ss woBody [some (.str t), some (.int a), some (.int k), some (.int j)] σ) oo) := by
  intro o hk
  by_cases h1 : c = 40
  · subst h1
    refine ss_next (do_ife (wo_char hc hz) (one_asg (v := .int (k + 1)) (is_bop (is_loc (v := .int k) rfl) ev_e_int (bop_addi k 1)))) ?_
    exact ss_skip (wo_char (k := k + 1) hc hz) hk
  · have e1 : ([c] == [40]) = false := beq_eq_false_iff_ne.mpr fun e => h1 (List.cons.inj e).1
    refine ss_neg (wo_char hc hz) e1 ?_
    by_cases h2 : c = 41
    · subst h2
      exact ss_next (do_ife (wo_char hc hz) (one_asg (v := .int (k - 1)) (is_bop (is_loc (v := .int k) rfl) ev_e_int (bop_subi k 1)))) hk
    · have e2 : ([c] == [41]) = false := beq_eq_false_iff_ne.mpr fun e => h2 (List.cons.inj e).1
      refine ss_neg (wo_char hc hz) e2 ?_
      rw [show k + brV c = k from by unfold brV; rw [if_neg h1, if_neg h2]; lia] at hk
      exact hk
theorem wo_next {t : List Nat} {a k : Int} {j c : Nat} (hc : t[j]? = some c) (hz : t.length ≤ 60000) (h : k + brV c ≠ 0) :
    ev d (.ss woBody [some (.str t), some (.int a), some (.int k), some (.int j)] σ) (.fl .next [some (.str t), some (.int a), some (.int (k + brV c)), some (.int j)] σ) := by
  refine wo_count hc hz ?_; refine ss_neg (is_cmp (is_loc (v := .int (k + brV c)) rfl) ev_e_int (cmp_eqi _ 0)) (beq_eq_false_iff_ne.mpr h) ?_; exact ev_ss_nil
theorem wo_value {t P q1 q2 : List Nat} {k : PV} (ht : t = P ++ 40 :: (q1 ++ 41 :: q2)) (hz : t.length ≤ 60000) :
    ev d (.e woRet [some (.str t), some (.int P.length), some k, some (.int ((P.length + 1 + q1.length : Nat) : Int))] σ) (.v (.str (P ++ q1 ++ q2)) σ) := by
  have hl : t.length = P.length + (1 + (q1.length + (1 + q2.length))) := by rw [ht]; simp; lia
  have e1 : t.take (cl (P.length : Int) t.length) = P := by rw [cl_in (by lia), ht]; simp
  have e2 : cut t (cl ((P.length : Int) + 1) t.length) (cl ((P.length + 1 + q1.length : Nat) : Int) t.length) = q1 := by
    rw [show ((P.length : Int) + 1) = ((P.length + 1 : Nat) : Int) from by push_cast; rfl]
    refine cut_word (rest := 41 :: q2) ?_ (by lia)
    rw [ht, show P ++ 40 :: (q1 ++ 41 :: q2) = (P ++ [40]) ++ (q1 ++ 41 :: q2) from by simp, List.drop_left' (by simp)]
  have e3 : t.drop (cl (((P.length + 1 + q1.length : Nat) : Int) + 1) t.length) = q2 := by
    rw [show (((P.length + 1 + q1.length : Nat) : Int) + 1) = ((P.length + 1 + q1.length + 1 : Nat) : Int) from by push_cast; rfl, cl_in (by lia), ht, show P ++ 40 :: (q1 ++ 41 :: q2) = (P ++ [40] ++ q1 ++ [41]) ++ q2 from by simp, List.drop_left' (by simp; lia)]
  have a1 := is_slTo (d := d) (ρ := [some (.str t), some (.int P.length), some k, some (.int ((P.length + 1 + q1.length : Nat) : Int))]) (σ := σ) (is_loc (i := 0) (v := .str t) rfl) (is_loc (i := 1) (v := .int P.length) rfl) (by lia)
  have a2 := is_sl2 (d := d) (ρ := [some (.str t), some (.int P.length), some k, some (.int ((P.length + 1 + q1.length : Nat) : Int))]) (σ := σ) (is_loc (i := 0) (v := .str t) rfl) (is_bop (is_loc (i := 1) (v := .int P.length) rfl) ev_e_int (bop_addi _ 1)) (is_loc (i := 3) (v := .int ((P.length + 1 + q1.length : Nat) : Int)) rfl) (by lia)
  have a3 := is_slFrom (d := d) (ρ := [some (.str t), some (.int P.length), some k, some (.int ((P.length + 1 + q1.length : Nat) : Int))]) (σ := σ) (is_loc (i := 0) (v := .str t) rfl) (is_bop (is_loc (i := 3) (v := .int ((P.length + 1 + q1.length : Nat) : Int)) rfl) ev_e_int (bop_addi _ 1)) (by lia)
  rw [e1] at a1
  rw [e2] at a2
  rw [e3] at a3
  exact is_adds (is_adds a1 a2 (by lia)) a3 (by rw [List.length_append]; lia)
theorem wo_loop {t P : List Nat} (hz : t.length ≤ 60000) : ∀ (Q q1 : List Nat) (k : Int) (x : Option PV), t = P ++ 40 :: (q1 ++ Q) → 1 ≤ k → k + bal Q ≤ 0 →
    ∃ q q2 ρ', q1 ++ Q = q ++ 41 :: q2 ∧ ev d (.fr 3 (.vals (seqV (P.length + 1 + q1.length) Q.length)) woBody [some (.str t), some (.int P.length), some (.int k), x] σ) (.fl (.ret (.str (P ++ q ++ q2))) ρ' σ)
  | [], q1, k, x, ht, h1, h2 => by
    have : k + 0 ≤ 0 := h2
    lia
  | c :: Q, q1, k, x, ht, h1, h2 => by
    have hc : t[P.length + 1 + q1.length]? = some c := by
      have e : P.length + 1 + q1.length = (P ++ [40] ++ q1).length := by simp; lia
      rw [ht, show P ++ 40 :: (q1 ++ c :: Q) = (P ++ [40] ++ q1) ++ c :: Q from by simp, e, List.getElem?_append_right (Nat.le_refl _), Nat.sub_self]; rfl
    have h2' : k + (brV c + bal Q) ≤ 0 := h2
    show ∃ q q2 ρ', _ ∧ ev d (.fr 3 (.vals (.int ((P.length + 1 + q1.length : Nat) : Int) :: seqV (P.length + 1 + q1.length + 1) Q.length)) woBody _ σ) _
    by_cases hk : k + brV c = 0
    · have c41 : c = 41 := by
        unfold brV at hk
        split at hk
        · lia
        · split at hk
          · assumption
          · lia
      subst c41
      refine ⟨q1, Q, _, rfl, fr_ret (ρ' := [some (.str t), some (.int P.length), some (.int (k + brV 41)), some (.int ((P.length + 1 + q1.length : Nat) : Int))]) ?_⟩
      show ev d (.ss woBody [some (.str t), some (.int P.length), some (.int k), some (.int ((P.length + 1 + q1.length : Nat) : Int))] σ) _
      refine wo_count hc hz ?_
      refine ss_take (is_cmp (is_loc (v := .int (k + brV 41)) rfl) ev_e_int (cmp_eqi _ 0)) ?_
      rw [hk]
      exact ss_ret1 (wo_value ht hz)
    · have hn := wo_next (d := d) (σ := σ) (a := P.length) hc hz hk
      have hk1 : 1 ≤ k + brV c := by
        have : -1 ≤ brV c := by unfold brV; split <;> (try split) <;> lia
        lia
      have ih := wo_loop (P := P) hz Q (q1 ++ [c]) (k + brV c) (some (.int ((P.length + 1 + q1.length : Nat) : Int))) (by rw [ht]; simp) hk1 (by lia)
      rw [show P.length + 1 + (q1 ++ [c]).length = P.length + 1 + q1.length + 1 from by simp; lia, show q1 ++ [c] ++ Q = q1 ++ c :: Q from by simp] at ih
      obtain ⟨q, q2, ρ', g1, g2⟩ := ih
      exact ⟨q, q2, ρ', g1, fr_cons hn g2⟩
theorem ev_without {t P Q : List Nat} (ht : t = P ++ 40 :: Q) (hz : t.length ≤ 60000) (hb : 1 + bal Q ≤ 0) : ∃ q1 q2, Q = q1 ++ 41 :: q2 ∧ ev (d + 1) (.call 43 [.str t, .int P.length] σ) (.v (.str (P ++ q1 ++ q2)) σ) := by
  obtain ⟨q, q2, ρ', h1, h2⟩ := wo_loop (d := d) (σ := σ) (P := P) hz Q [] 1 (some (.int P.length)) (by rw [ht]; rfl) (Int.le_refl _) hb
  refine ⟨q, q2, h1, do_call (fn := ⟨2, 4, b43⟩) rfl rfl (ρ' := ρ') ?_⟩
  show ev d (.ss b43 [some (.str t), some (.int P.length), none, none] σ) _
  refine ss_next (do_asg (v := .int 0) (σ' := σ) ev_e_int) ?_
  have hl : t.length = P.length + (1 + Q.length) := by rw [ht]; simp; lia
  have hc : t[P.length]? = some 40 := by rw [ht, List.getElem?_append_right (Nat.le_refl _), Nat.sub_self]; rfl
  have er : ev d (.e (.bi .range [(.loc 1), (.bi .len [(.loc 0)])]) [some (.str t), some (.int P.length), some (.int 0), none] σ) (.v (.rng P.length t.length) σ) := by
    exact is_bi (es_c (is_loc (v := .int P.length) rfl) (es_1 (is_bi (es_1 (is_loc (v := .str t) rfl)) (bi_len t (by lia))))) (bi_range2 ⟨by lia, by lia, by lia, by lia⟩)
  have es : srcOf σ (.rng P.length t.length) = some (.vals (seqV P.length (1 + Q.length))) := by
    rw [src_rng ⟨by lia, by lia, by lia, by lia⟩, rng_seq (1 + Q.length) P.length t.length (by lia)]
  refine ss_retd ?_
  show ev d (.s (.forr 3 _ woBody) [some (.str t), some (.int P.length), some (.int 0), none] σ) _
  refine do_forr er es ?_; rw [Nat.add_comm 1]
  show ev d (.fr 3 (.vals (.int P.length :: seqV (P.length + 1) Q.length)) woBody _ σ) _
  have hn := wo_next (d := d) (σ := σ) (a := P.length) (k := 0) hc hz (by decide)
  refine fr_cons hn ?_
  exact h2
end Mine
end
section
namespace Mine
variable {d : Nat} {ρ : Loc} {σ : Store}
/-! what is heard of the law's texts -/
noncomputable def Hears (X : List Nat) (p : PV) : Prop := ∀ (d : Nat) (σ : Store), 110 ≤ d → d ≤ 60000 → ∃ τ, ev (d + 2) (.call 42 [.str X] σ) (.v p τ)
structure Gt (t : T) : Prop where
  val : Val t
  leaves : nl t ≤ 7
  signs : nu t ≤ 3
theorem hears_of {l : List Pc} {tl : List Nat} {r : Option (T × List Lx)} (ok : AOk tl l) (hn : (lexA l).length ≤ 60) (hz : (flatA l ++ tl).length ≤ 60000) (h1 : ∀ c, tl[0]? = some c → isBlank c = false) (h2 : restDone tl = true)
    (hr : R (.level 1 0) (lexA l) r) : Hears (flatA l ++ tl) (hv r) ∧ okD 60 (hv r) = true :=
  ⟨fun d σ h3 h4 => (heardA ok hn hz h1 h2 hr h3 h4).1, (heardA (d := 110) (σ := []) ok hn hz h1 h2 hr (Nat.le_refl _) (by lia)).2⟩
theorem hears_nil {l : List Pc} {r : Option (T × List Lx)} (ok : AOk [] l) (hn : (lexA l).length ≤ 60) (hz : (flatA l).length ≤ 60000) (hr : R (.level 1 0) (lexA l) r) : Hears (flatA l) (hv r) ∧ okD 60 (hv r) = true := by
  have q := hears_of (tl := []) ok hn (by rw [List.append_nil]; exact hz) (fun c hc => nomatch hc) rfl hr
  rw [List.append_nil] at q; exact q
section
variable {t : T}
theorem Gt.okT (g : Gt t) : okD 60 (tv t) = true := okD_tv t 60 (by have := ht_nl t; have := g.leaves; have := g.signs; lia) (val_wd t g.val).1
theorem Gt.len (g : Gt t) : (text t 1).length ≤ 200 := by have := text_len t 1 g.val; have := g.leaves; have := g.signs; lia
theorem Gt.lex (g : Gt t) : (lexA (ats t 1)).length ≤ 30 := by have := lex_len t 1; have := g.leaves; have := g.signs; lia
theorem Gt.tx (g : Gt t) : ∃ k, Tx t 1 (lexA (ats t 1)) k ∧ k + 1 ≤ 10 := by
  obtain ⟨k, h1, h2⟩ := tx_ats t 1 g.val
  exact ⟨k, h1, by have := g.leaves; have := g.signs; lia⟩
theorem Gt.flat (g : Gt t) : flatA (ats t 1) = text t 1 := flat_ats t 1
theorem Gt.read (g : Gt t) : R (.level 1 0) (lexA (ats t 1)) (some (t, [])) := by
  obtain ⟨k, h1, h2⟩ := g.tx
  have := tx_whole h1 (dep := 0) (rest := []) (by lia) (by decide)
  rw [List.append_nil] at this; exact this
theorem hears_text (g : Gt t) : Hears (text t 1) (tv t) := by
  have q := (hears_nil (ok_ats t 1 g.val) (by have := g.lex; lia) (by rw [g.flat]; have := g.len; lia) g.read).1
  rw [g.flat] at q; exact q
theorem ok_open {tl : List Nat} {l : List Pc} (h : AOk tl l) : AOk tl (.lx mO :: l) := ⟨by show [40] ∈ okMarks; decide, fun q => Bool.noConfusion q, h⟩
theorem ok_last {x : Lx} (h : WordOk x) : AOk [] [.lx x] := ⟨h, fun _ => sp_nil, trivial⟩
theorem okC : WordOk mC := by show [41] ∈ okMarks; decide
theorem hears_pair (g : Gt t) : Hears ([40] ++ text t 1 ++ [41]) (tv t) := by
  obtain ⟨k, h1, h2⟩ := g.tx
  have r : R (.level 1 0) (mO :: (lexA (ats t 1) ++ [mC])) (some (t, [])) := by
    have z : lev (mC :: []) = 0 := by show levelOf [41] = 0; decide
    exact .level (.par (by lia) (tx_whole h1 (dep := 1) (rest := mC :: []) (by lia) (by rw [z]; decide))) (.stop (by decide))
  have e : flatA (.lx mO :: (ats t 1 ++ [.lx mC])) = [40] ++ text t 1 ++ [41] := by
    show [40] ++ flatA (ats t 1 ++ [.lx mC]) = _
    rw [flatA_app, g.flat, List.append_assoc]; rfl
  have el : lexA (.lx mO :: (ats t 1 ++ [.lx mC])) = mO :: (lexA (ats t 1) ++ [mC]) := by
    show mO :: lexA (ats t 1 ++ [.lx mC]) = _
    rw [lexA_app]; rfl
  have q := (hears_nil (l := .lx mO :: (ats t 1 ++ [.lx mC])) (ok_open (aok_app (sp41 (v := [])) (ok_last okC) (ok_ats t 1 g.val))) (by rw [el]; have := g.lex; simp; lia) (by rw [e]; have := g.len; simp; lia) (by rw [el]; exact r)).1
  rw [e] at q; exact q
theorem hears_behind (g : Gt t) : Hears (text t 1 ++ [32, 41]) noneV := by
  obtain ⟨k, h1, h2⟩ := g.tx
  have z : lev (mC :: []) = 0 := by show levelOf [41] = 0; decide
  have r : R (.level 1 0) (lexA (ats t 1) ++ [mC]) (some (t, [mC])) := tx_whole h1 (by lia) (by rw [z]; decide)
  have e : flatA (ats t 1 ++ [.bl 32, .lx mC]) = text t 1 ++ [32, 41] := by rw [flatA_app, g.flat]; rfl
  have el : lexA (ats t 1 ++ [.bl 32, .lx mC]) = lexA (ats t 1) ++ [mC] := by rw [lexA_app]; rfl
  have b : AOk [] [.bl 32, .lx mC] := ⟨by decide, ok_last okC⟩
  have q := (hears_nil (l := ats t 1 ++ [.bl 32, .lx mC]) (aok_app (sp32 (v := [41])) b (ok_ats t 1 g.val)) (by rw [el]; have := g.lex; simp; lia) (by rw [e]; have := g.len; simp; lia) (by rw [el]; exact r)).1
  rw [e] at q; exact q
theorem hears_ahead (g : Gt t) : Hears ([40] ++ text t 1) noneV := by
  obtain ⟨k, h1, h2⟩ := g.tx
  have r : R (.level 1 0) (mO :: lexA (ats t 1)) none := by
    have q := tx_whole h1 (dep := 1) (rest := []) (by lia) (by decide)
    rw [List.append_nil] at q
    exact .levelx (.pary (by lia) q fun _ e => by cases e)
  have e : flatA (.lx mO :: ats t 1) = [40] ++ text t 1 := by
    show [40] ++ flatA (ats t 1) = _
    rw [g.flat]
  have q := (hears_nil (l := .lx mO :: ats t 1) (ok_open (ok_ats t 1 g.val)) (by show (lexA (ats t 1)).length + 1 ≤ 60; have := g.lex; lia) (by rw [e]; have := g.len; simp; lia) r).1
  rw [e] at q; exact q
theorem hears_star (g : Gt t) : Hears (text t 1 ++ [32, 42]) noneV := by
  obtain ⟨k, h1, h2⟩ := g.tx
  have r : R (.level 1 0) (lexA (ats t 1) ++ [.mark [42]]) none := tx_star h1 (by decide) 1 0 (Nat.le_refl _) (Nat.le_refl _) (by decide) (by lia)
  have e : flatA (ats t 1 ++ [.bl 32, .lx (.mark [42])]) = text t 1 ++ [32, 42] := by rw [flatA_app, g.flat]; rfl
  have el : lexA (ats t 1 ++ [.bl 32, .lx (.mark [42])]) = lexA (ats t 1) ++ [.mark [42]] := by rw [lexA_app]; rfl
  have b : AOk [] [.bl 32, .lx (.mark [42])] := ⟨by decide, ok_last (by show [42] ∈ okMarks; decide)⟩
  have q := (hears_nil (l := ats t 1 ++ [.bl 32, .lx (.mark [42])]) (aok_app (sp32 (v := [42])) b (ok_ats t 1 g.val)) (by rw [el]; have := g.lex; simp; lia) (by rw [e]; have := g.len; simp; lia) (by rw [el]; exact r)).1
  rw [e] at q; exact q

/-! a pair left out -/
theorem hears_without (g : Gt t) {i : Nat} (hi : (text t 1)[i]? = some 40) (h3 : 110 ≤ d) (h4 : d ≤ 60000) : ∃ X p, okD 60 p = true ∧ eqB 60 p (tv t) = false ∧ (∃ r, p = hv r) ∧
    ev (d + 2) (.call 43 [.str (text t 1), .int i] σ) (.v (.str X) σ) ∧ ∃ τ, ev (d + 2) (.call 42 [.str X] σ) (.v p τ) := by
  have hz := g.len
  rw [← g.flat] at hi hz
  obtain ⟨A, B, hl, hA⟩ := at_bracket (ok_ats t 1 g.val) (.inl rfl) hi
  have ht : text t 1 = flatA A ++ 40 :: flatA B := by rw [← g.flat, hl, flatA_app]; rfl
  have hb : 1 + bal (flatA B) ≤ 0 := (bal_text t 1 g.val).2 (flatA A) (40 :: flatA B) ht
  obtain ⟨q1, q2, h1, h2⟩ := ev_without (d := d + 1) (σ := σ) ht (by have := g.len; lia) hb
  have ok := ok_ats t 1 g.val
  rw [hl] at ok
  have hB : (flatA B)[q1.length]? = some 41 := by rw [h1, List.getElem?_append_right (Nat.le_refl _), Nat.sub_self]; rfl
  have okB : AOk [] B := aok_tail (A := A) (aok_open (A := A) ok)
  obtain ⟨B1, B2, hB12, hlen⟩ := at_bracket okB (.inr rfl) hB
  have e2 : flatA B = flatA B1 ++ 41 :: flatA B2 := by rw [hB12, flatA_app]; rfl
  rw [h1] at e2
  obtain ⟨e3, e4⟩ := List.append_inj e2 hlen
  have e5 : q2 = flatA B2 := (List.cons.inj e4).2
  have ok2 : AOk [] (A ++ B1 ++ B2) := by
    have := aok_open (A := A) ok
    rw [hB12, ← List.append_assoc] at this
    exact aok_close this
  have ex : flatA (A ++ B1 ++ B2) = flatA A ++ q1 ++ q2 := by rw [flatA_app, flatA_app, ← e3, e5]
  have lx : lexA (ats t 1) = lexA A ++ mO :: (lexA B1 ++ mC :: lexA B2) := by rw [hl, hB12, lexA_app]; show _ ++ mO :: lexA (B1 ++ _) = _; rw [lexA_app]; rfl
  have hno : nOpen (lexA (A ++ B1 ++ B2)) + 1 = cnt t 1 := by
    rw [← nOpen_ats t 1 g.val, lx, lexA_app, lexA_app, nOpen_app, nOpen_app, nOpen_app]
    show _ = _ + (1 + nOpen (lexA B1 ++ _))
    rw [nOpen_app]
    show _ = _ + (1 + (_ + (0 + _)))
    lia
  have hll : (lexA (A ++ B1 ++ B2)).length ≤ 30 := by
    have := g.lex
    rw [lx] at this
    rw [lexA_app, lexA_app]
    simp at this ⊢; lia
  obtain ⟨r, hr, _⟩ := (total ((lexA (A ++ B1 ++ B2)).length + 1)).2.1 1 0 (lexA (A ++ B1 ++ B2)) (Nat.le_refl _) (by lia)
  have hlx : (flatA (A ++ B1 ++ B2)).length ≤ 60000 := by
    have := g.len
    rw [ht, h1] at this
    rw [ex]; simp at this ⊢; lia
  have q := hears_nil ok2 (by lia) hlx hr
  rw [ex] at q
  rw [← hA] at h2
  refine ⟨_, hv r, q.2, ?_, ⟨r, rfl⟩, h2, q.1 d σ h3 h4⟩
  cases hq : eqB 60 (hv r) (tv t) with
    | false => rfl
    | true =>
      exfalso
      cases r with
      | none => have hq' : eqB 60 noneV (tv t) = true := hq; rw [none_ne] at hq'; cases hq'
      | some z =>
        obtain ⟨u, l'⟩ := z
        cases l' with
        | cons x l' => have hq' : eqB 60 noneV (tv t) = true := hq; rw [none_ne] at hq'; cases hq'
        | nil =>
          obtain rfl := eqB_inj u t 60 hq
          have c : nOpen [] + cnt u ((1 : Nat) : Int) ≤ nOpen (lexA (A ++ B1 ++ B2)) := (count hr (by show 1 ≤ 4; lia)).1
          have c' : nOpen ([] : List Lx) = 0 := rfl
          rw [c'] at c
          push_cast at c
          lia
end
end Mine
end
section
namespace Mine
variable {d : Nat} {ρ : Loc} {σ : Store}
/-! a pair more around a point -/
theorem one_split {x p : Lx} {A B : List Lx} (h : [x] = A ++ p :: B) : A = [] ∧ x = p ∧ B = [] := by
  cases A with
  | nil => injection h with h1 h2; exact ⟨rfl, h1, h2.symm⟩
  | cons y A => injection h with h1 h2; cases A <;> cases h2
theorem tx_dot : ∀ (t : T) (c : Nat) (A B : List Lx), Val t → lexA (ats t c) = A ++ pnt :: B → ∃ k, Tx t c (A ++ mO :: pnt :: mC :: B) k ∧ k ≤ nl t + nu t
  | .num n, c, A, B, h, e => by obtain ⟨_, q, _⟩ := one_split e; cases q
  | .sym s, c, A, B, h, e => by obtain ⟨_, q, _⟩ := one_split e; injection q with q; subst q; exact absurd (show [46] ∈ nms from h) (by decide)
  | .here, c, A, B, h, e => by obtain ⟨rfl, _, rfl⟩ := one_split e; exact ⟨1, .hereP, by show 1 ≤ 1 + 0; lia⟩
  | .un s t, c, A, B, h, e => by
    have e' : .mark s :: lexA (ats t 4) = A ++ pnt :: B := e
    cases A with
    | nil => injection e' with q; cases q
    | cons x A =>
      injection e' with e1 e2
      subst e1
      obtain ⟨k, h1, h2⟩ := tx_dot t 4 A B h.2 e2
      exact ⟨k + 1, .un h.1 h1, by show k + 1 ≤ nl t + (nu t + 1); lia⟩
  | .bin s l r, c, A, B, h, e => by
    obtain ⟨lv, hlv⟩ : ∃ lv : Nat, levelOf s = (lv : Int) := ⟨(levelOf s).toNat, by have := level_nn s; lia⟩
    have h1 : 1 ≤ lv := by have := h.1; lia
    obtain ⟨i, a1, a2⟩ := tx_ats l lv h.2.1
    obtain ⟨j, b1, b2⟩ := tx_ats r (lv + 1) h.2.2
    have := nl_pos l
    have := nl_pos r
    have dl := tx_dot l lv
    have dr := tx_dot r (lv + 1)
    rw [lex_bin, hlv] at e
    push_cast at b1 dr
    have w : nl (.bin s l r) + nu (.bin s l r) = (nl l + nl r) + (nu l + nu r) := rfl
    by_cases q : (lv : Int) < c
    · rw [if_pos q] at e
      cases A with
      | nil => injection e with e1; cases e1
      | cons x A =>
        injection e with e1 e2
        subst e1
        rcases List.append_eq_append_iff.mp e2 with ⟨s', rfl, h2⟩ | ⟨s', h2, h3⟩
        · cases s' with
          | nil => injection h2 with h2; cases h2
          | cons y s' =>
            injection h2 with h2 h3
            subst h2
            rcases List.append_eq_append_iff.mp h3 with ⟨s2, rfl, h4⟩ | ⟨s2, h4, h5⟩
            · obtain ⟨_, z, _⟩ := one_split h4; cases z
            · cases s2 with
              | nil => injection h5 with h5; cases h5
              | cons y s2 =>
                injection h5 with h5 h6
                subst h5
                obtain ⟨k, k1, k2⟩ := dr s' s2 h.2.2 h4
                refine ⟨max i k + 1, ?_, by rw [w]; lia⟩
                have z := Tx.binP hlv h1 a1 k1 (c := c) (by lia)
                rw [h6]
                simpa using z
        · cases s' with
          | nil => injection h3 with h3; cases h3
          | cons y s' =>
            injection h3 with h3 h4
            subst h3
            obtain ⟨k, k1, k2⟩ := dl A s' h.2.1 h2
            refine ⟨max k j + 1, ?_, by rw [w]; lia⟩
            have z := Tx.binP hlv h1 k1 b1 (c := c) (by lia)
            rw [h4]
            simpa using z
    · rw [if_neg q] at e
      rcases List.append_eq_append_iff.mp e with ⟨s', rfl, h2⟩ | ⟨s', h2, h3⟩
      · cases s' with
        | nil => injection h2 with h2; cases h2
        | cons y s' =>
          injection h2 with h2 h3
          subst h2
          obtain ⟨k, k1, k2⟩ := dr s' B h.2.2 h3
          refine ⟨max i k, ?_, by rw [w]; lia⟩
          have z := Tx.bin hlv h1 a1 k1 (c := c) (by lia)
          simpa using z
      · cases s' with
        | nil => injection h3 with h3; cases h3
        | cons y s' =>
          injection h3 with h3 h4
          subst h3
          obtain ⟨k, k1, k2⟩ := dl A s' h.2.1 h2
          refine ⟨max k j, ?_, by rw [w]; lia⟩
          have z := Tx.bin hlv h1 k1 b1 (c := c) (by lia)
          rw [h4]
          simpa using z
section
variable {t : T}
theorem hears_dot (g : Gt t) {i : Nat} (hi : (text t 1)[i]? = some 46) (hp : ∀ c, 1 ≤ i → (text t 1)[i - 1]? = some c → nameSign c = false) : ∃ P S, text t 1 = P ++ 46 :: S ∧ P.length = i ∧ Hears (P ++ [40, 46, 41] ++ S) (tv t) := by
  have hi' := hi
  rw [← g.flat] at hi'
  rcases at_dot (ok_ats t 1 g.val) (names_ats t 1 g.val) hi' with ⟨A, B, hl, hA⟩ | ⟨c, h1, h2, h3⟩
  · have ht : text t 1 = flatA A ++ 46 :: flatA B := by rw [← g.flat, hl, flatA_app]; rfl
    refine ⟨flatA A, flatA B, ht, hA.symm, ?_⟩
    have lx : lexA (ats t 1) = lexA A ++ pnt :: lexA B := by rw [hl, lexA_app]; rfl
    obtain ⟨k, k1, k2⟩ := tx_dot t 1 (lexA A) (lexA B) g.val lx
    have hk : k ≤ 10 := by have := g.leaves; have := g.signs; lia
    have el : lexA (A ++ .lx mO :: .lx pnt :: .lx mC :: B) = lexA A ++ mO :: pnt :: mC :: lexA B := by rw [lexA_app]; rfl
    have e : flatA (A ++ .lx mO :: .lx pnt :: .lx mC :: B) = flatA A ++ [40, 46, 41] ++ flatA B := by
      rw [flatA_app, List.append_assoc]; rfl
    have r : R (.level 1 0) (lexA A ++ mO :: pnt :: mC :: lexA B) (some (t, [])) := by
      have q := tx_whole k1 (dep := 0) (rest := []) (by lia) (by decide)
      rw [List.append_nil] at q; exact q
    have ok := ok_ats t 1 g.val
    rw [hl] at ok
    have q := (hears_nil (l := A ++ .lx mO :: .lx pnt :: .lx mC :: B) (aok_point ok) (by rw [el]; have := g.lex; rw [lx] at this; simp at this ⊢; lia) (by rw [e]; have := g.len; rw [ht] at this; simp at this ⊢; lia) (by rw [el]; exact r)).1
    rw [e] at q; exact q
  · rw [g.flat] at h2
    rw [hp c h1 h2] at h3; cases h3
end

/-! other blanks, and a remark behind -/
noncomputable def sx : Pc → List Pc
  | .bl c => if c = 32 then [.bl 32, .bl 9, .bl 32] else [.bl c]
  | .lx x => match x with
    | .mark w => if w = [40] then [.lx mO, .bl 32] else if w = [41] then [.bl 32, .lx mC] else [.lx (.mark w)]
    | x => [.lx x]
noncomputable def rep3 (l : List Nat) : List Nat := replL 41 [32, 41] (replL 40 [40, 32] (replL 32 [32, 9, 32] l))
theorem repl_app (c : Nat) (r : List Nat) : ∀ (a b : List Nat), replL c r (a ++ b) = replL c r a ++ replL c r b
  | [], b => rfl
  | x :: a, b => by
    show (if x == c then r ++ replL c r (a ++ b) else x :: replL c r (a ++ b)) = (if x == c then r ++ replL c r a else x :: replL c r a) ++ replL c r b
    rw [repl_app c r a b]
    split <;> simp
theorem repl_free (c : Nat) (r : List Nat) : ∀ (a : List Nat), (∀ x ∈ a, x ≠ c) → replL c r a = a
  | [], _ => rfl
  | x :: a, h => by
    show (if x == c then r ++ replL c r a else x :: replL c r a) = _
    rw [beq_eq_false_iff_ne.mpr (h x (.head _)), repl_free c r a fun y hy => h y (.tail _ hy)]; rfl
theorem rep3_app (a b : List Nat) : rep3 (a ++ b) = rep3 a ++ rep3 b := by unfold rep3; rw [repl_app, repl_app, repl_app]
theorem rep3_free {a : List Nat} (h : ∀ x ∈ a, x ≠ 32 ∧ x ≠ 40 ∧ x ≠ 41) : rep3 a = a := by
  unfold rep3
  rw [repl_free 32 _ a fun x hx => (h x hx).1, repl_free 40 _ a fun x hx => (h x hx).2.1, repl_free 41 _ a fun x hx => (h x hx).2.2]
theorem no_32 {x : Lx} (h : WordOk x) : ∀ c ∈ x.word, c ≠ 32 := by
  intro c hc e
  subst e
  cases x with
  | name w => have q := h.2 32 hc; exact Bool.noConfusion (show false = true from q)
  | num w => have q := h.1.dig 32 hc; unfold isDigit at q; lia
  | mark w => exact (show ∀ w ∈ okMarks, 32 ∉ w by decide) w h hc
theorem rep3_sx {a : Pc} (h : match a with | .bl c => isBlank c = true | .lx x => WordOk x) : rep3 a.chars = flatA (sx a) := by
  cases a with
  | bl c =>
    have h' : isBlank c = true := h
    unfold isBlank at h'
    simp only [Bool.or_eq_true, beq_iff_eq, List.cons.injEq, and_true, Bool.false_eq_true, or_false] at h'
    rcases h' with rfl | rfl | rfl <;> decide
  | lx x =>
    have h' : WordOk x := h
    by_cases h1 : x = mO
    · subst h1; decide
    · by_cases h2 : x = mC
      · subst h2; decide
      · have e : sx (.lx x) = [.lx x] := by
          cases x with
          | mark w =>
            show (if w = [40] then _ else if w = [41] then _ else _) = _
            rw [if_neg fun e => h1 (by rw [e]; rfl), if_neg fun e => h2 (by rw [e]; rfl)]
          | _ => rfl
        rw [e]
        show rep3 x.word = x.word ++ []
        rw [List.append_nil]
        exact rep3_free fun c hc => ⟨no_32 h' c hc, no_br h' h1 h2 c hc⟩
theorem rep3_flat {tl : List Nat} : ∀ {l : List Pc}, AOk tl l → rep3 (flatA l) = flatA (l.flatMap sx)
  | [], _ => rfl
  | .bl c :: r, ok => by
    show rep3 ([c] ++ flatA r) = flatA (sx (.bl c) ++ r.flatMap sx)
    rw [rep3_app, flatA_app, rep3_flat ok.2, ← rep3_sx (a := .bl c) ok.1]; rfl
  | .lx x :: r, ok => by
    show rep3 (x.word ++ flatA r) = flatA (sx (.lx x) ++ r.flatMap sx)
    rw [rep3_app, flatA_app, rep3_flat ok.2.2, ← rep3_sx (a := .lx x) ok.1]; rfl
set_option tactic.hygienic true in
theorem lex_sx : ∀ (l : List Pc), lexA (l.flatMap sx) = lexA l
  | [] => rfl
  | .bl c :: r => by
    show lexA (sx (.bl c) ++ r.flatMap sx) = lexA r
    rw [lexA_app, lex_sx r]
    show lexA (if c = 32 then _ else _) ++ _ = _
    split <;> rfl
  | .lx x :: r => by
    show lexA (sx (.lx x) ++ r.flatMap sx) = x :: lexA r
    rw [lexA_app, lex_sx r]
    cases x with
    | mark w =>
      show lexA (if w = [40] then _ else if w = [41] then _ else _) ++ _ = _
      split
      · rename_i e; subst e; rfl
      · split
        · rename_i e; subst e; rfl
        · rfl
    | _ => rfl
theorem sp_rep {X : List Nat} {tl : List Nat} (h : sp X) : sp (rep3 X ++ 32 :: tl) := by
  cases X with
  | nil => exact sp32
  | cons c X =>
    rw [show c :: X = [c] ++ X from rfl, rep3_app]
    rcases h c rfl with rfl | rfl | rfl
    · exact sp32
    · exact fun c hc => .inr (.inl (Option.some.inj (show some 9 = some c from hc)).symm)
    · exact sp32
set_option tactic.hygienic true in
theorem aok_sx {tl : List Nat} : ∀ {l : List Pc}, AOk [] l → AOk tl (l.flatMap sx ++ [.bl 32])
  | [], _ => ⟨by decide, trivial⟩
  | .bl c :: r, ok => by
    have ih := aok_sx (tl := tl) ok.2
    show AOk tl ((sx (.bl c) ++ r.flatMap sx) ++ [.bl 32])
    rw [List.append_assoc]
    show AOk tl ((if c = 32 then _ else _) ++ _)
    split
    · exact ⟨by decide, by decide, by decide, ih⟩
    · exact ⟨ok.1, ih⟩
  | .lx x :: r, ok => by
    have ih := aok_sx (tl := tl) ok.2.2
    have hs : hard x = true → sp (flatA (r.flatMap sx ++ [.bl 32]) ++ tl) := fun h => by
      have q := ok.2.1 h
      rw [List.append_nil] at q
      rw [flatA_app, ← rep3_flat ok.2.2, List.append_assoc]
      exact sp_rep q
    show AOk tl ((sx (.lx x) ++ r.flatMap sx) ++ [.bl 32])
    rw [List.append_assoc]
    cases x with
    | mark w =>
      show AOk tl ((if w = [40] then _ else if w = [41] then _ else _) ++ _)
      split
      · exact ⟨by show [40] ∈ okMarks; decide, fun q => Bool.noConfusion q, by decide, ih⟩
      · split
        · rename_i e; subst e
          exact ⟨by decide, okC, hs, ih⟩
        · exact ⟨ok.1, hs, ih⟩
    | name w => exact ⟨ok.1, hs, ih⟩
    | num w => exact ⟨ok.1, hs, ih⟩
theorem rep_len (c : Nat) (r : List Nat) (h : r.length ≤ 3) : ∀ a : List Nat, (replL c r a).length ≤ 3 * a.length
  | [] => Nat.le_refl _
  | x :: a => by
    have := rep_len c r h a
    show (if x == c then r ++ replL c r a else x :: replL c r a).length ≤ 3 * (a.length + 1)
    split <;> simp <;> lia
theorem rep3_len (a : List Nat) : (rep3 a).length ≤ 27 * a.length := by
  unfold rep3
  have h1 := rep_len 32 [32, 9, 32] (by decide) a
  have h2 := rep_len 40 [40, 32] (by decide) (replL 32 [32, 9, 32] a)
  have h3 := rep_len 41 [32, 41] (by decide) (replL 40 [40, 32] (replL 32 [32, 9, 32] a))
  lia
theorem hears_spaced {t : T} (g : Gt t) : Hears ([32, 32] ++ rep3 (text t 1) ++ [32, 35, 32, 40, 114, 101, 115, 116]) (tv t) := by
  have ok := ok_ats t 1 g.val
  have e : flatA (.bl 32 :: .bl 32 :: ((ats t 1).flatMap sx ++ [.bl 32])) ++ [35, 32, 40, 114, 101, 115, 116] = [32, 32] ++ rep3 (text t 1) ++ [32, 35, 32, 40, 114, 101, 115, 116] := by
    show [32] ++ ([32] ++ flatA ((ats t 1).flatMap sx ++ [.bl 32])) ++ _ = _
    rw [flatA_app, ← rep3_flat ok, g.flat]
    simp [flatA, Pc.chars]
  have el : lexA (.bl 32 :: .bl 32 :: ((ats t 1).flatMap sx ++ [.bl 32])) = lexA (ats t 1) := by
    show lexA ((ats t 1).flatMap sx ++ [.bl 32]) = _
    rw [lexA_app, lex_sx]
    show _ ++ [] = _
    rw [List.append_nil]
  have a1 : AOk [35, 32, 40, 114, 101, 115, 116] (.bl 32 :: .bl 32 :: ((ats t 1).flatMap sx ++ [.bl 32])) := ⟨by decide, by decide, aok_sx ok⟩
  have q := (hears_of (tl := [35, 32, 40, 114, 101, 115, 116]) a1 (by rw [el]; have := g.lex; lia) (by rw [e]; have := g.len; have := rep3_len (text t 1); simp; lia) (fun c hc => by cases hc; decide) rfl (by rw [el]; exact g.read)).1
  rw [e] at q; exact q
end Mine
end
section
namespace Mine
variable {d : Nat} {ρ : Loc} {σ : Store}
/-! the script's hand -/
noncomputable def hnd (xs : List Int) (at_ st u : Int) : MO := .lst [.lis (xs.map .int), .int at_, .int st, .int u]
theorem sub_hl {i k : Nat} {l : List PV} {v : PV} (h : σ[i]? = some (.lst l)) (hv : l[k]? = some v) (hk : k < 100) : subV σ (.ref i) (.int k) = some v := by
  have h2 : (0 : Int) ≤ k ∧ (k : Int) < 1073741824 := by lia
  simp only [subV, lstAt, h, h2, and_self, if_true, Int.toNat_natCast, hv]
theorem sub_lis {k : Nat} {l : List PV} {v : PV} (hv : l[k]? = some v) (hk : k < 100) : subV σ (.lis l) (.int k) = some v := by
  have h2 : (0 : Int) ≤ k ∧ (k : Int) < 1073741824 := by lia
  simp only [subV, lstAt, h2, and_self, if_true, Int.toNat_natCast, hv]
theorem set_lst {i k : Nat} {l : List PV} {v : PV} (h : σ[i]? = some (.lst l)) (hk : k < l.length) (hk2 : k < 100) : setitemV σ (.ref i) (.int k) v = some (σ.set i (.lst (l.set k v))) := by
  have h2 : (0 : Int) ≤ k ∧ (k : Int) < 1073741824 ∧ (k : Int) < l.length := by lia
  simp only [setitemV, h, h2, and_self, if_true, Int.toNat_natCast]
theorem bop_mod {a b : Int} (h : 0 < b) : bopV .mod (.int a) (.int b) = some (.int (a % b)) := if_pos h
theorem bop_fdiv {a b : Int} (h : 0 < b ∧ b < 1073741824) : bopV .fdiv (.int a) (.int b) = some (.int (a / b)) := if_pos h
theorem hnd_sub {i k : Nat} {x : E} {xs : List Int} {a s u : Int} {v : PV} {σ' : Store} (hx : ev d (.e x ρ σ) (.v (.ref i) σ')) (h : σ'[i]? = some (hnd xs a s u)) (hv : ([.lis (xs.map .int), .int a, .int s, .int u] : List PV)[k]? = some v) (hk : k < 100) : ev d (.e (.sub x (.int k)) ρ σ) (.v v σ') :=
  is_sub hx ev_e_int (sub_hl h hv hk)
theorem set_set {i : Nat} {a b : MO} : (σ.set i a).set i b = σ.set i b := List.set_set ..
theorem ev_next {i : Nat} {xs : List Int} {at_ st u m : Int} (h : σ[i]? = some (hnd xs at_ st u)) (h0 : 0 ≤ at_) (hx : xs.length ≤ 50) (hm : 0 < m) :
    ∃ v st', 0 ≤ v ∧ v < m ∧ ev (d + 1) (.call 37 [.ref i, .int m] σ) (.v (.int v) (σ.set i (hnd xs (at_ + 1) st' u))) := by
  have c1 : ev d (.s (.asg 2 (.sub (.loc 0) (.int 1))) [some (.ref i), some (.int m), none] σ) (.fl .next [some (.ref i), some (.int m), some (.int at_)] σ) := do_asg (hnd_sub (k := 1) (is_loc (v := .ref i) rfl) h rfl (by decide))
  have c2 : ev d (.s (.setitem (.loc 0) (.int 1) (.bop .add (.loc 2) (.int 1))) [some (.ref i), some (.int m), some (.int at_)] σ) (.fl .next [some (.ref i), some (.int m), some (.int at_)] (σ.set i (hnd xs (at_ + 1) st u))) :=
    do_setitem (is_bop (is_loc (v := .int at_) rfl) ev_e_int (bop_addi at_ 1)) (is_loc (v := .ref i) rfl) ev_e_int (set_lst (k := 1) h (by show 1 < 4; decide) (by decide))
  have h' : (σ.set i (hnd xs (at_ + 1) st u))[i]? = some (hnd xs (at_ + 1) st u) := get_set ⟨_, h⟩
  have c3 : ev d (.e (.cmp (.loc 2) .lt (.bi .len [(.sub (.loc 0) (.int 0))])) [some (.ref i), some (.int m), some (.int at_)] (σ.set i (hnd xs (at_ + 1) st u))) (.v (.bool (decide (at_ < (xs.length : Int)))) (σ.set i (hnd xs (at_ + 1) st u))) := by
    refine is_cmp (is_loc (v := .int at_) rfl) (is_bi (es_1 (hnd_sub (k := 0) (is_loc (v := .ref i) rfl) h' rfl (by decide))) ?_) (cmp_lt at_ xs.length)
    have : xs.length ≤ 65536 := by lia
    show (if (xs.map PV.int).length ≤ 65536 then some (PV.int (xs.map PV.int).length) else none) = _
    rw [List.length_map, if_pos this]
  by_cases hlt : at_ < (xs.length : Int)
  · obtain ⟨n, rfl⟩ : ∃ n : Nat, at_ = n := ⟨at_.toNat, by lia⟩
    obtain ⟨x, hxn⟩ : ∃ x, xs[n]? = some x := ⟨xs[n]'(by lia), List.getElem?_eq_getElem (by lia)⟩
    refine ⟨x % m, st, Int.emod_nonneg _ (by lia), Int.emod_lt_of_pos _ hm, do_call (fn := ⟨2, 3, b37⟩) rfl rfl (ρ' := [some (.ref i), some (.int m), some (.int n)]) ?_⟩
    show ev d (.ss b37 [some (.ref i), some (.int m), none] σ) _
    refine ss_next c1 ?_; refine ss_next c2 ?_
    refine ss_take c3 ?_
    rw [decide_eq_true hlt]
    refine ss_ret1 (is_bop (is_sub (hnd_sub (k := 0) (is_loc (v := .ref i) rfl) h' rfl (by decide)) (is_loc (v := .int n) rfl) (sub_lis (v := .int x) (by rw [List.getElem?_map, hxn]; rfl) (by lia))) (is_loc (v := .int m) rfl) (bop_mod hm))
  · have c4 : ev d (.s (.setitem (.loc 0) (.int 2) (.bop .mod (.bop .add (.bop .mul (.sub (.loc 0) (.int 2)) (.int 69069)) (.int 1327217885)) (.int 4294967296))) [some (.ref i), some (.int m), some (.int at_)] (σ.set i (hnd xs (at_ + 1) st u)))
        (.fl .next [some (.ref i), some (.int m), some (.int at_)] (σ.set i (hnd xs (at_ + 1) ((st * 69069 + 1327217885) % 4294967296) u))) := by
      have e := do_setitem (d := d) (ρ := [some (.ref i), some (.int m), some (.int at_)]) (is_bop (is_bop (is_bop (hnd_sub (k := 2) (is_loc (i := 0) (v := .ref i) rfl) h' rfl (by decide)) ev_e_int (bop_mul st 69069 (by decide))) ev_e_int (bop_addi _ 1327217885)) ev_e_int (bop_mod (b := 4294967296) (by decide))) (is_loc (i := 0) (v := .ref i) rfl) (ev_e_int (i := 2)) (set_lst (k := 2) h' (by show 2 < 4; decide) (by decide))
      rw [set_set] at e
      exact e
    have h2 : (σ.set i (hnd xs (at_ + 1) ((st * 69069 + 1327217885) % 4294967296) u))[i]? = some (hnd xs (at_ + 1) ((st * 69069 + 1327217885) % 4294967296) u) := get_set ⟨_, h⟩
    refine ⟨(st * 69069 + 1327217885) % 4294967296 / 4096 % m, (st * 69069 + 1327217885) % 4294967296, Int.emod_nonneg _ (by lia), Int.emod_lt_of_pos _ hm, do_call (fn := ⟨2, 3, b37⟩) rfl rfl (ρ' := [some (.ref i), some (.int m), some (.int at_)]) ?_⟩
    show ev d (.ss b37 [some (.ref i), some (.int m), none] σ) _
    refine ss_next c1 ?_; refine ss_next c2 ?_; refine ss_neg c3 (decide_eq_false hlt) ?_; refine ss_next c4 ?_
    exact ss_ret1 (is_bop (is_bop (hnd_sub (k := 2) (is_loc (v := .ref i) rfl) h2 rfl (by decide)) ev_e_int (bop_fdiv (by decide))) (is_loc (v := .int m) rfl) (bop_mod hm))
/-- the next number of the hand, as it is asked for in a body -/
theorem is_next {i : Nat} {x y : E} {xs : List Int} {at_ st u m : Int} (hx' : ev d (.e x ρ σ) (.v (.ref i) σ)) (hy : ev d (.e y ρ σ) (.v (.int m) σ)) (h : σ[i]? = some (hnd xs at_ st u)) (h0 : 0 ≤ at_) (hx : xs.length ≤ 50) (hm : 0 < m) (hd : 1 ≤ d) :
    ∃ v st', 0 ≤ v ∧ v < m ∧ ev d (.e (.call 37 [x, y]) ρ σ) (.v (.int v) (σ.set i (hnd xs (at_ + 1) st' u))) := by
  obtain ⟨v, st', h1, h2, h3⟩ := ev_next (d := d - 1) h h0 hx hm
  rw [show d - 1 + 1 = d from by lia] at h3
  exact ⟨v, st', h1, h2, (is_call (es_c hx' (es_1 hy)) h3)⟩

/-- a tree of so many leaves comes back from a body; from a call -/
inductive TreeR (d : Nat) (c : Cfg) (σ : Store) (i : Nat) (xs : List Int) (leaves u : Nat) : Prop
  | mk (t : T) (at' st' : Int) (u' : Nat) (ρ' : Loc) (h0 : 0 ≤ at') (hv : Val t) (hl : nl t = leaves) (hu : nu t + u = u') (h3 : u' ≤ 3) (he : ev d c (.fl (.ret (.tup [tv t, nv t])) ρ' (σ.set i (hnd xs at' st' u'))))
inductive TreeC (d : Nat) (c : Cfg) (σ : Store) (i : Nat) (xs : List Int) (leaves u : Nat) : Prop
  | mk (t : T) (at' st' : Int) (u' : Nat) (h0 : 0 ≤ at') (hv : Val t) (hl : nl t = leaves) (hu : nu t + u = u') (h3 : u' ≤ 3) (he : ev d c (.v (.tup [tv t, nv t]) (σ.set i (hnd xs at' st' u'))))
theorem TreeR.pre {c c' : Cfg} {i : Nat} {xs : List Int} {leaves u : Nat} (f : ∀ {o}, ev d c o → ev d c' o) : TreeR d c σ i xs leaves u → TreeR d c' σ i xs leaves u
  | .mk t a s u r h0 hv hl hu h3 he => .mk t a s u r h0 hv hl hu h3 (f he)
theorem TreeR.out {d' : Nat} {c c' : Cfg} {i : Nat} {xs : List Int} {leaves u : Nat} (f : ∀ {v ρ' σ'}, ev d c (.fl (.ret v) ρ' σ') → ev d' c' (.v v σ')) : TreeR d c σ i xs leaves u → TreeC d' c' σ i xs leaves u
  | .mk t a s u _ h0 hv hl hu h3 he => .mk t a s u h0 hv hl hu h3 (f he)
theorem TreeC.back {d' : Nat} {c c' : Cfg} {i : Nat} {xs : List Int} {leaves u : Nat} (ρ' : Loc) (f : ∀ {v σ'}, ev d c (.v v σ') → ev d' c' (.fl (.ret v) ρ' σ')) : TreeC d c σ i xs leaves u → TreeR d' c' σ i xs leaves u
  | .mk t a s u h0 hv hl hu h3 he => .mk t a s u ρ' h0 hv hl hu h3 (f he)
theorem TreeR.set {c : Cfg} {i : Nat} {o : MO} {xs : List Int} {leaves u : Nat} : TreeR d c (σ.set i o) i xs leaves u → TreeR d c σ i xs leaves u
  | .mk t a s u r h0 hv hl hu h3 he => .mk t a s u r h0 hv hl hu h3 (set_set (σ := σ) .. ▸ he)
theorem ev_leaf {i : Nat} {xs : List Int} {at_ st : Int} {u : Nat} (h : σ[i]? = some (hnd xs at_ st u)) (h0 : 0 ≤ at_) (hx : xs.length ≤ 50) (hd : 1 ≤ d) (hu : u ≤ 3) : TreeC (d + 1) (.call 38 [.ref i] σ) σ i xs 1 u := by
  obtain ⟨v, s1, v0, v1, e1⟩ := is_next (d := d) (ρ := [some (.ref i), none, none, none]) (x := .loc 0) (y := .int 4) (is_loc (v := .ref i) rfl) ev_e_int h h0 hx (by decide) hd
  have h1 : (σ.set i (hnd xs (at_ + 1) s1 u))[i]? = some (hnd xs (at_ + 1) s1 u) := get_set ⟨_, h⟩
  refine TreeR.out (do_call (fn := ⟨1, 4, b38⟩) rfl rfl) (TreeR.pre (ss_next (do_asg e1)) ?_)
  by_cases q0 : v = 0
  · subst q0
    obtain ⟨w, s2, w0, w1, e2⟩ := is_next (d := d) (ρ := [some (.ref i), some (.int 0), none, none]) (x := .loc 0) (y := .int 5) (is_loc (v := .ref i) rfl) ev_e_int h1 (by lia) hx (by decide) hd
    rw [set_set] at e2
    obtain ⟨n, rfl⟩ : ∃ n : Nat, w = n := ⟨w.toNat, by lia⟩
    have hn : n < 5 := by lia
    obtain ⟨s, hs1, hs2⟩ : ∃ s, ([.str [97], .str [98], .str [99, 57], .str [95, 120, 46, 49, 36], .str [76]] : List PV)[n]? = some (.str s) ∧ s ∈ nms := by
      have : n = 0 ∨ n = 1 ∨ n = 2 ∨ n = 3 ∨ n = 4 := by lia
      rcases this with rfl | rfl | rfl | rfl | rfl <;> exact ⟨_, rfl, by decide⟩
    refine .mk (.sym s) (at_ + 1 + 1) s2 u [some (.ref i), some (.int 0), none, some (.str s)] (by lia) hs2 rfl (Nat.zero_add u) hu ?_
    refine ss_take (is_cmp (is_loc (v := .int 0) rfl) ev_e_int (cmp_eqi 0 0)) ?_
    have et : ev d (.e (.tup [(.str [97]), (.str [98]), (.str [99, 57]), (.str [95, 120, 46, 49, 36]), (.str [76])]) [some (.ref i), some (.int 0), none, none] (σ.set i (hnd xs (at_ + 1) s1 u))) (.v (.tup [.str [97], .str [98], .str [99, 57], .str [95, 120, 46, 49, 36], .str [76]]) (σ.set i (hnd xs (at_ + 1) s1 u))) := by
      exact is_tup (es_c ev_e_str (es_c ev_e_str (es_c ev_e_str (es_c ev_e_str (es_1 ev_e_str))))) (Nat.le_of_ble_eq_true rfl)
    have ea := do_asg (i := 3) (is_sub et e2 (sub_tup hs1 (by lia)))
    show ev d (.ss [.asg 3 _, .ret _] [some (.ref i), some (.int 0), none, none] _) _
    refine ss_next ea ?_
    refine ss_ret1 ?_
    have em : ev d (.e (.mk 5 [(.loc 3)]) [some (.ref i), some (.int 0), none, some (.str s)] (σ.set i (hnd xs (at_ + 1 + 1) s2 u))) (.v (nv (.sym s)) (σ.set i (hnd xs (at_ + 1 + 1) s2 u))) := (is_mk (es_1 (is_loc (v := .str s) rfl)) (mk_sym s))
    have ett : ev d (.e (.tup [(.str [115, 121, 109, 98, 111, 108]), (.loc 3)]) [some (.ref i), some (.int 0), none, some (.str s)] (σ.set i (hnd xs (at_ + 1 + 1) s2 u))) (.v (tv (.sym s)) (σ.set i (hnd xs (at_ + 1 + 1) s2 u))) := by
      exact is_tup (es_c ev_e_str (es_1 (is_loc (v := .str s) rfl))) (Nat.le_of_ble_eq_true rfl)
    show ev d (.e (.tup _) [some (.ref i), some (.int 0), none, some (.str s)] _) _
    exact is_tup (es_c ett (es_1 em)) (Nat.le_of_ble_eq_true rfl)
  · refine TreeR.pre (ss_neg (is_cmp (is_loc (v := .int v) rfl) ev_e_int (cmp_eqi v 0)) (beq_eq_false_iff_ne.mpr q0)) ?_
    by_cases q1 : v = 1
    · subst q1
      refine .mk .here (at_ + 1) s1 u [some (.ref i), some (.int 1), none, none] (by lia) trivial rfl (Nat.zero_add u) hu ?_
      refine ss_take (is_cmp (is_loc (v := .int 1) rfl) ev_e_int (cmp_eqi 1 1)) ?_
      refine ss_ret1 ?_
      have ett : ev d (.e (.tup [(.str [104, 101, 114, 101])]) [some (.ref i), some (.int 1), none, none] (σ.set i (hnd xs (at_ + 1) s1 u))) (.v (tv .here) (σ.set i (hnd xs (at_ + 1) s1 u))) := by
        exact is_tup (es_1 ev_e_str) (Nat.le_of_ble_eq_true rfl)
      have em : ev d (.e (.mk 6 []) [some (.ref i), some (.int 1), none, none] (σ.set i (hnd xs (at_ + 1) s1 u))) (.v (nv .here) (σ.set i (hnd xs (at_ + 1) s1 u))) := (is_mk ev_es_nil mk_here)
      show ev d (.e (.tup _) [some (.ref i), some (.int 1), none, none] _) _
      exact is_tup (es_c ett (es_1 em)) (Nat.le_of_ble_eq_true rfl)
    · refine TreeR.pre (ss_neg (is_cmp (is_loc (v := .int v) rfl) ev_e_int (cmp_eqi v 1)) (beq_eq_false_iff_ne.mpr q1)) ?_
      obtain ⟨n, s2, n0, n1, ew⟩ : ∃ n s2, 0 ≤ n ∧ n < 18446744073709551616 ∧ ev d (.e (.ite (.cmp (.loc 1) .eq (.int 2)) (.call 37 [(.loc 0), (.int 10)]) (.bop .sub (.int 18446744073709551615) (.call 37 [(.loc 0), (.bop .shl (.int 1) (.int 63))]))) [some (.ref i), some (.int v), none, none] (σ.set i (hnd xs (at_ + 1) s1 u))) (.v (.int n) (σ.set i (hnd xs (at_ + 1 + 1) s2 u))) := by
        have ec := is_cmp (d := d) (ρ := [some (.ref i), some (.int v), none, none]) (σ := σ.set i (hnd xs (at_ + 1) s1 u)) (is_loc (i := 1) (v := .int v) rfl) (ev_e_int (i := 2)) (cmp_eqi v 2)
        by_cases q2 : v = 2
        · obtain ⟨w, s2, w0, w1, e2⟩ := is_next (d := d) (ρ := [some (.ref i), some (.int v), none, none]) (x := .loc 0) (y := .int 10) (is_loc (v := .ref i) rfl) ev_e_int h1 (by lia) hx (by decide) hd
          rw [set_set] at e2
          refine ⟨w, s2, w0, by lia, is_ite ec ?_⟩
          rw [beq_iff_eq.mpr q2]; exact e2
        · obtain ⟨w, s2, w0, w1, e2⟩ := is_next (d := d) (ρ := [some (.ref i), some (.int v), none, none]) (x := .loc 0) (y := .bop .shl (.int 1) (.int 63)) (m := 9223372036854775808) (is_loc (v := .ref i) rfl) (is_bop ev_e_int ev_e_int rfl) h1 (by lia) hx (by decide) hd
          rw [set_set] at e2
          refine ⟨18446744073709551615 - w, s2, by lia, by lia, is_ite ec ?_⟩
          rw [beq_eq_false_iff_ne.mpr q2]
          exact is_bop ev_e_int e2 (bop_subi _ _)
      refine .mk (.num n) (at_ + 1 + 1) s2 u [some (.ref i), some (.int v), some (.int n), none] (by lia) ⟨n0, n1⟩ rfl (Nat.zero_add u) hu ?_
      show ev d (.ss [.asg 2 _, .ret _] [some (.ref i), some (.int v), none, none] _) _
      refine ss_next (do_asg ew) ?_
      refine ss_ret1 ?_
      have ett : ev d (.e (.tup [(.str [110, 117, 109, 98, 101, 114]), (.loc 2)]) [some (.ref i), some (.int v), some (.int n), none] (σ.set i (hnd xs (at_ + 1 + 1) s2 u))) (.v (tv (.num n)) (σ.set i (hnd xs (at_ + 1 + 1) s2 u))) := by
        exact is_tup (es_c ev_e_str (es_1 (is_loc (v := .int n) rfl))) (Nat.le_of_ble_eq_true rfl)
      have em : ev d (.e (.mk 4 [(.loc 2)]) [some (.ref i), some (.int v), some (.int n), none] (σ.set i (hnd xs (at_ + 1 + 1) s2 u))) (.v (nv (.num n)) (σ.set i (hnd xs (at_ + 1 + 1) s2 u))) := (is_mk (es_1 (is_loc (v := .int n) rfl)) (mk_num n))
      show ev d (.e (.tup _) [some (.ref i), some (.int v), some (.int n), none] _) _
      exact is_tup (es_c ett (es_1 em)) (Nat.le_of_ble_eq_true rfl)
end Mine
end
section
namespace Mine
variable {d : Nat} {ρ : Loc} {σ : Store}
/-! a tree of the script -/
noncomputable def TreeOk (n : Nat) : Prop := ∀ (leaves u dd : Nat) (σ : Store) (i : Nat) (xs : List Int) (at_ st : Int), leaves + (3 - u) ≤ n → 1 ≤ leaves → leaves ≤ 7 → u ≤ 3 → n + 3 ≤ dd → σ[i]? = some (hnd xs at_ st u) → 0 ≤ at_ → xs.length ≤ 50 →
  TreeC dd (.call 39 [.ref i, .int leaves] σ) σ i xs leaves u
noncomputable def treeRest : List S := [
    .ife (.cmp (.loc 1) .eq (.int 1)) [.ret (.call 38 [(.loc 0)])] [],
    .asg 2 (.bop .add (.int 1) (.call 37 [(.loc 0), (.bop .sub (.loc 1) (.int 1))])),
    .asg 3 (.sub (.tup [(.glob 3), (.glob 4), (.glob 5)]) (.call 37 [(.loc 0), (.int 3)])),
    .asg 4 (.sub (.loc 3) (.call 37 [(.loc 0), (.bi .len [(.loc 3)])])),
    .asg2 5 6 (.call 39 [(.loc 0), (.loc 2)]),
    .asg2 7 8 (.call 39 [(.loc 0), (.bop .sub (.loc 1) (.loc 2))]),
    .ret (.tup [(.tup [(.str [98, 105, 110, 97, 114, 121]), (.loc 4), (.loc 5), (.loc 7)]), (.mk 8 [(.loc 4), (.loc 6), (.loc 8)])])]
noncomputable def lowS : List PV := [.str [45], .str [43]]
noncomputable def midS : List PV := [.str [124], .str [38], .str [94]]
noncomputable def highS : List PV := [.str [42], .str [47], .str [37], .str [60, 60], .str [62, 62]]
theorem pick_signs {n : Nat} (h : n < 3) : ∃ S, ([.tup lowS, .tup midS, .tup highS] : List PV)[n]? = some (.tup S) ∧ 0 < S.length ∧ S.length ≤ 5 ∧ ∀ k, k < S.length → ∃ s, S[k]? = some (.str s) ∧ 1 ≤ levelOf s := by
  have : n = 0 ∨ n = 1 ∨ n = 2 := by lia
  rcases this with rfl | rfl | rfl
  · refine ⟨lowS, rfl, by decide, by decide, fun k hk => ?_⟩
    have : k < 2 := hk
    have : k = 0 ∨ k = 1 := by lia
    rcases this with rfl | rfl <;> exact ⟨_, rfl, by decide⟩
  · refine ⟨midS, rfl, by decide, by decide, fun k hk => ?_⟩
    have : k < 3 := hk
    have : k = 0 ∨ k = 1 ∨ k = 2 := by lia
    rcases this with rfl | rfl | rfl <;> exact ⟨_, rfl, by decide⟩
  · refine ⟨highS, rfl, by decide, by decide, fun k hk => ?_⟩
    have : k < 5 := hk
    have : k = 0 ∨ k = 1 ∨ k = 2 ∨ k = 3 ∨ k = 4 := by lia
    rcases this with rfl | rfl | rfl | rfl | rfl <;> exact ⟨_, rfl, by decide⟩
theorem tree_rest {n leaves u i : Nat} {xs : List Int} {at_ st : Int} (ih : TreeOk n) (hl : leaves + (3 - u) ≤ n + 1) (h1 : 1 ≤ leaves) (h7 : leaves ≤ 7) (hu : u ≤ 3) (hd : n + 3 ≤ d) (h : σ[i]? = some (hnd xs at_ st u)) (h0 : 0 ≤ at_) (hx : xs.length ≤ 50) :
    TreeR d (.ss treeRest [some (.ref i), some (.int leaves), none, none, none, none, none, none, none, none, none] σ) σ i xs leaves u := by
  by_cases q : leaves = 1
  · subst q
    have z := ev_leaf (d := d - 1) h h0 hx (by lia) hu
    rw [show d - 1 + 1 = d from by lia] at z
    exact z.back [some (.ref i), some (.int ((1 : Nat) : Int)), none, none, none, none, none, none, none, none, none] fun q => ss_take (is_cmp (is_loc (v := .int 1) rfl) ev_e_int (cmp_eqi 1 1)) (ss_ret1 (is_call (es_1 (is_loc (v := .ref i) rfl)) q))
  · have e0 : ((leaves : Int) == 1) = false := beq_eq_false_iff_ne.mpr (by lia)
    refine TreeR.pre (ss_neg (is_cmp (is_loc (v := .int leaves) rfl) ev_e_int (cmp_eqi _ 1)) e0) ?_
    -- how many to the left
    obtain ⟨v, s1, v0, v1, e1⟩ := is_next (d := d) (ρ := [some (.ref i), some (.int leaves), none, none, none, none, none, none, none, none, none]) (x := .loc 0) (y := .bop .sub (.loc 1) (.int 1)) (m := (leaves : Int) - 1) (is_loc (v := .ref i) rfl) (is_bop (is_loc (v := .int leaves) rfl) ev_e_int (bop_subi _ 1)) h h0 hx (by lia) (by lia)
    have g1 : (σ.set i (hnd xs (at_ + 1) s1 u))[i]? = some (hnd xs (at_ + 1) s1 u) := get_set ⟨_, h⟩
    obtain ⟨a, ha⟩ : ∃ a : Nat, (1 + v : Int) = a := ⟨(1 + v).toNat, by lia⟩
    have f1 := do_asg (i := 2) (is_bop (ev_e_int (d := d) (i := 1)) e1 (bop_addi 1 v))
    rw [ha] at f1
    refine TreeR.pre (ss_next f1) ?_
    -- which signs
    obtain ⟨w, s2, w0, w1, e2⟩ := is_next (d := d) (ρ := [some (.ref i), some (.int leaves), some (.int a), none, none, none, none, none, none, none, none]) (x := .loc 0) (y := .int 3) (is_loc (v := .ref i) rfl) ev_e_int g1 (by lia) hx (by decide) (by lia)
    rw [set_set] at e2
    have g2 : (σ.set i (hnd xs (at_ + 1 + 1) s2 u))[i]? = some (hnd xs (at_ + 1 + 1) s2 u) := get_set ⟨_, h⟩
    obtain ⟨k, rfl⟩ : ∃ k : Nat, w = k := ⟨w.toNat, by lia⟩
    obtain ⟨S, hS, hS0, hS5, hSk⟩ := pick_signs (n := k) (by lia)
    have et : ev d (.e (.tup [(.glob 3), (.glob 4), (.glob 5)]) [some (.ref i), some (.int leaves), some (.int a), none, none, none, none, none, none, none, none] (σ.set i (hnd xs (at_ + 1) s1 u))) (.v (.tup [.tup lowS, .tup midS, .tup highS]) (σ.set i (hnd xs (at_ + 1) s1 u))) := by
      exact is_tup (es_c (is_glob (v := .tup lowS) rfl) (es_c (is_glob (v := .tup midS) rfl) (es_1 (is_glob (v := .tup highS) rfl)))) (Nat.le_of_ble_eq_true rfl)
    refine TreeR.pre (ss_next (do_asg (i := 3) (is_sub et e2 (sub_tup hS (by lia))))) ?_
    -- which sign
    obtain ⟨w, s3, w0, w1, e3⟩ := is_next (d := d) (ρ := [some (.ref i), some (.int leaves), some (.int a), some (.tup S), none, none, none, none, none, none, none]) (x := .loc 0) (y := .bi .len [(.loc 3)]) (m := S.length) (is_loc (v := .ref i) rfl) (is_bi (es_1 (is_loc (v := .tup S) rfl)) (bi_lent S (by lia))) g2 (by lia) hx (by lia) (by lia)
    rw [set_set] at e3
    have g3 : (σ.set i (hnd xs (at_ + 1 + 1 + 1) s3 u))[i]? = some (hnd xs (at_ + 1 + 1 + 1) s3 u) := get_set ⟨_, h⟩
    obtain ⟨k, rfl⟩ : ∃ k : Nat, w = k := ⟨w.toNat, by lia⟩
    obtain ⟨s, hs, hlev⟩ := hSk k (by lia)
    refine TreeR.pre (ss_next (do_asg (i := 4) (is_sub (is_loc (v := .tup S) rfl) e3 (sub_tup hs (by lia))))) ?_
    -- the sides
    obtain ⟨tl, a4, s4, u4, p1, p2, p3, p4, p5, e4⟩ := ih a u d (σ.set i (hnd xs (at_ + 1 + 1 + 1) s3 u)) i xs (at_ + 1 + 1 + 1) s3 (by lia) (by lia) (by lia) hu hd g3 (by lia) hx
    rw [set_set] at e4
    have g4 : (σ.set i (hnd xs a4 s4 (u4 : Nat)))[i]? = some (hnd xs a4 s4 (u4 : Nat)) := get_set ⟨_, h⟩
    refine TreeR.pre (ss_next (do_asg2 (i := 5) (j := 6) ((is_call (es_c (is_loc (v := .ref i) rfl) (es_1 (is_loc (v := .int a) rfl))) e4)))) ?_
    obtain ⟨tr, a5, s5, u5, r1, r2, r3, r4, r5, e5⟩ := ih (leaves - a) u4 d (σ.set i (hnd xs a4 s4 (u4 : Nat))) i xs a4 s4 (by lia) (by lia) (by lia) (by lia) hd g4 p1 hx
    rw [set_set] at e5
    have el : ev d (.e (.bop .sub (.loc 1) (.loc 2)) [some (.ref i), some (.int leaves), some (.int a), some (.tup S), some (.str s), some (tv tl), some (nv tl), none, none, none, none] (σ.set i (hnd xs a4 s4 (u4 : Nat)))) (.v (.int ((leaves - a : Nat) : Int)) (σ.set i (hnd xs a4 s4 (u4 : Nat)))) := by
      have q := is_bop (d := d) (ρ := [some (.ref i), some (.int leaves), some (.int a), some (.tup S), some (.str s), some (tv tl), some (nv tl), none, none, none, none]) (σ := σ.set i (hnd xs a4 s4 (u4 : Nat))) (is_loc (i := 1) (v := .int leaves) rfl) (is_loc (i := 2) (v := .int a) rfl) (bop_subi _ _)
      rw [show (leaves : Int) - a = ((leaves - a : Nat) : Int) from by lia] at q
      exact q
    refine TreeR.pre (ss_next (do_asg2 (i := 7) (j := 8) ((is_call (es_c (is_loc (v := .ref i) rfl) (es_1 el)) e5)))) ?_
    refine .mk (.bin s tl tr) a5 s5 u5 [some (.ref i), some (.int leaves), some (.int a), some (.tup S), some (.str s), some (tv tl), some (nv tl), some (tv tr), some (nv tr), none, none] r1 ⟨hlev, p2, r2⟩ (by show nl tl + nl tr = leaves; lia) (by show nu tl + nu tr + u = u5; lia) r5 (ss_ret1 ?_)
    have ett : ev d (.e (.tup [(.str [98, 105, 110, 97, 114, 121]), (.loc 4), (.loc 5), (.loc 7)]) [some (.ref i), some (.int leaves), some (.int a), some (.tup S), some (.str s), some (tv tl), some (nv tl), some (tv tr), some (nv tr), none, none] (σ.set i (hnd xs a5 s5 (u5 : Nat)))) (.v (tv (.bin s tl tr)) (σ.set i (hnd xs a5 s5 (u5 : Nat)))) := by
      exact is_tup (es_c ev_e_str (es_c (is_loc (v := .str s) rfl) (es_c (is_loc (v := tv tl) rfl) (es_1 (is_loc (v := tv tr) rfl))))) (Nat.le_of_ble_eq_true rfl)
    have em : ev d (.e (.mk 8 [(.loc 4), (.loc 6), (.loc 8)]) [some (.ref i), some (.int leaves), some (.int a), some (.tup S), some (.str s), some (tv tl), some (nv tl), some (tv tr), some (nv tr), none, none] (σ.set i (hnd xs a5 s5 (u5 : Nat)))) (.v (nv (.bin s tl tr)) (σ.set i (hnd xs a5 s5 (u5 : Nat)))) :=
      (is_mk (es_c (is_loc (v := .str s) rfl) (es_c (is_loc (v := nv tl) rfl) (es_1 (is_loc (v := nv tr) rfl)))) (mk_bin s tl tr))
    exact is_tup (es_c ett (es_1 em)) (Nat.le_of_ble_eq_true rfl)
theorem tree_ok : ∀ n, TreeOk n := by
  intro n
  induction n with
  | zero => intro leaves u dd σ i xs at_ st hl h1; lia
  | succ n ih =>
    intro leaves u dd σ i xs at_ st hl h1 h7 hu hd h h0 hx
    obtain ⟨d, rfl⟩ : ∃ d, dd = d + 1 := ⟨dd - 1, by lia⟩
    refine TreeR.out (do_call (fn := ⟨2, 11, b39⟩) rfl rfl) ?_
    have c1 : ev d (.e (.cmp (.sub (.loc 0) (.int 3)) .lt (.int 3)) [some (.ref i), some (.int leaves), none, none, none, none, none, none, none, none, none] σ) (.v (.bool (decide ((u : Int) < 3))) σ) := is_cmp (d := d) (ρ := [some (.ref i), some (.int leaves), none, none, none, none, none, none, none, none, none]) (hnd_sub (k := 3) (is_loc (i := 0) (v := .ref i) rfl) h rfl (by decide)) (ev_e_int (i := 3)) (cmp_lt u 3)
    by_cases q3 : (u : Int) < 3
    · rw [decide_eq_true q3] at c1
      obtain ⟨v, s1, v0, v1, e1⟩ := is_next (d := d) (ρ := [some (.ref i), some (.int leaves), none, none, none, none, none, none, none, none, none]) (x := .loc 0) (y := .int 6) (is_loc (v := .ref i) rfl) ev_e_int h h0 hx (by decide) (by lia)
      have g1 : (σ.set i (hnd xs (at_ + 1) s1 u))[i]? = some (hnd xs (at_ + 1) s1 u) := get_set ⟨_, h⟩
      have c2 : ev d (.e (.and [(.cmp (.sub (.loc 0) (.int 3)) .lt (.int 3)), (.cmp (.call 37 [(.loc 0), (.int 6)]) .eq (.int 1))]) [some (.ref i), some (.int leaves), none, none, none, none, none, none, none, none, none] σ) (.v (.bool (v == 1)) (σ.set i (hnd xs (at_ + 1) s1 u))) := by
        exact ev_e_and (bools_t c1 (bools_one (is_cmp e1 ev_e_int (cmp_eqi v 1))))
      by_cases q1 : v = 1
      · rw [beq_iff_eq.mpr q1] at c2
        have c3 : ev d (.s (.setitem (.loc 0) (.int 3) (.bop .add (.sub (.loc 0) (.int 3)) (.int 1))) [some (.ref i), some (.int leaves), none, none, none, none, none, none, none, none, none] (σ.set i (hnd xs (at_ + 1) s1 u)))
            (.fl .next [some (.ref i), some (.int leaves), none, none, none, none, none, none, none, none, none] (σ.set i (hnd xs (at_ + 1) s1 (u + 1 : Nat)))) := by
          have e := do_setitem (d := d) (ρ := [some (.ref i), some (.int leaves), none, none, none, none, none, none, none, none, none]) (is_bop (hnd_sub (k := 3) (is_loc (i := 0) (v := .ref i) rfl) g1 rfl (by decide)) (ev_e_int (i := 1)) (bop_addi u 1)) (is_loc (i := 0) (v := .ref i) rfl) (ev_e_int (i := 3)) (set_lst (k := 3) g1 (by show 3 < 4; decide) (by decide))
          rw [set_set] at e
          exact e
        have g2 : (σ.set i (hnd xs (at_ + 1) s1 (u + 1 : Nat)))[i]? = some (hnd xs (at_ + 1) s1 (u + 1 : Nat)) := get_set ⟨_, h⟩
        obtain ⟨w, s2, w0, w1, e2⟩ := is_next (d := d) (ρ := [some (.ref i), some (.int leaves), none, none, none, none, none, none, none, none, none]) (x := .loc 0) (y := .int 3) (is_loc (v := .ref i) rfl) ev_e_int g2 (by lia) hx (by decide) (by lia)
        rw [set_set] at e2
        have g3 : (σ.set i (hnd xs (at_ + 1 + 1) s2 (u + 1 : Nat)))[i]? = some (hnd xs (at_ + 1 + 1) s2 (u + 1 : Nat)) := get_set ⟨_, h⟩
        obtain ⟨k, rfl⟩ : ∃ k : Nat, w = k := ⟨w.toNat, by lia⟩
        obtain ⟨c, hc, hun⟩ : ∃ c, ([45, 126, 33] : List Nat)[k]? = some c ∧ isUn [c] = true := by
          have : k = 0 ∨ k = 1 ∨ k = 2 := by lia
          rcases this with rfl | rfl | rfl <;> exact ⟨_, rfl, by decide⟩
        obtain ⟨t, a4, s4, u4, p1, p2, p3, p4, p5, e4⟩ := ih leaves (u + 1) d (σ.set i (hnd xs (at_ + 1 + 1) s2 (u + 1 : Nat))) i xs (at_ + 1 + 1) s2 (by lia) h1 h7 (by lia) (by lia) g3 (by lia) hx
        rw [set_set] at e4
        refine .mk (.un [c] t) a4 s4 u4 [some (.ref i), some (.int leaves), none, none, some (.str [c]), none, none, none, none, some (tv t), some (nv t)] p1 ⟨hun, p2⟩ p3 (by show nu t + 1 + u = u4; lia) p5 (ss_take c2 ?_)
        show ev d (.ss (_ :: _) _ _) _
        refine ss_next c3 ?_; refine ss_next (do_asg (i := 4) (is_sub ev_e_str e2 (sub_at hc (by decide)))) ?_
        show ev d (.ss _ [some (.ref i), some (.int leaves), none, none, some (.str [c]), none, none, none, none, none, none] _) _
        refine ss_next (do_asg2 (i := 9) (j := 10) ((is_call (es_c (is_loc (v := .ref i) rfl) (es_1 (is_loc (v := .int leaves) rfl))) e4))) ?_
        show ev d (.ss _ [some (.ref i), some (.int leaves), none, none, some (.str [c]), none, none, none, none, some (tv t), some (nv t)] _) _
        refine ss_ret1 ?_
        have ett : ev d (.e (.tup [(.str [117, 110, 97, 114, 121]), (.loc 4), (.loc 9)]) [some (.ref i), some (.int leaves), none, none, some (.str [c]), none, none, none, none, some (tv t), some (nv t)] (σ.set i (hnd xs a4 s4 (u4 : Nat)))) (.v (tv (.un [c] t)) (σ.set i (hnd xs a4 s4 (u4 : Nat)))) := by
          exact is_tup (es_c ev_e_str (es_c (is_loc (v := .str [c]) rfl) (es_1 (is_loc (v := tv t) rfl)))) (Nat.le_of_ble_eq_true rfl)
        have em : ev d (.e (.mk 7 [(.loc 4), (.loc 10)]) [some (.ref i), some (.int leaves), none, none, some (.str [c]), none, none, none, none, some (tv t), some (nv t)] (σ.set i (hnd xs a4 s4 (u4 : Nat)))) (.v (nv (.un [c] t)) (σ.set i (hnd xs a4 s4 (u4 : Nat)))) :=
          (is_mk (es_c (is_loc (v := .str [c]) rfl) (es_1 (is_loc (v := nv t) rfl))) (mk_un [c] t))
        exact is_tup (es_c ett (es_1 em)) (Nat.le_of_ble_eq_true rfl)
      · exact TreeR.pre (ss_neg c2 (beq_eq_false_iff_ne.mpr q1)) (tree_rest (n := n) (d := d) ih (σ := σ.set i (hnd xs (at_ + 1) s1 u)) hl h1 h7 hu (by lia) g1 (by lia) hx).set
    · rw [decide_eq_false q3] at c1
      have c2 : ev d (.e (.and [(.cmp (.sub (.loc 0) (.int 3)) .lt (.int 3)), (.cmp (.call 37 [(.loc 0), (.int 6)]) .eq (.int 1))]) [some (.ref i), some (.int leaves), none, none, none, none, none, none, none, none, none] σ) (.v (.bool false) σ) := by
        refine ev_e_and ?_; exact bools_f (k := true) c1
      exact TreeR.pre (ss_skip c2) (tree_rest (n := n) (d := d) ih hl h1 h7 hu (by lia) h h0 hx)
end Mine
end
section
namespace Mine
variable {d : Nat} {ρ : Loc} {σ : Store}
/-! the law -/
/-- some store comes with the answer -/
inductive Ans (d : Nat) (c : Cfg) (v : PV) : Prop
  | mk (τ : Store) (h : ev d c (.v v τ))
theorem Ans.pre {c c' : Cfg} {v : PV} (f : ∀ {o}, ev d c o → ev d c' o) : Ans d c v → Ans d c' v
  | .mk τ h => .mk τ (f h)
inductive Yes (d : Nat) (c : Cfg) : Prop
  | mk (ρ' : Loc) (τ : Store) (h : ev d c (.fl (.ret (.bool true)) ρ' τ))
theorem Yes.pre {c c' : Cfg} (f : ∀ {o}, ev d c o → ev d c' o) : Yes d c → Yes d c'
  | .mk ρ τ h => .mk ρ τ (f h)
theorem is_heard {x : E} {X : List Nat} {p : PV} {σ' : Store} (hx : ev d (.e x ρ σ) (.v (.str X) σ')) (H : Hears X p) (hd : 150 ≤ d) (hd2 : d ≤ 60000) : ∃ τ, ev d (.e (.call 42 [x]) ρ σ) (.v p τ) := by
  obtain ⟨τ, h⟩ := H (d - 2) σ' (by lia) (by lia)
  rw [show d - 2 + 2 = d from by lia] at h
  exact ⟨τ, (is_call (es_1 hx) h)⟩
section
variable {t : T}
theorem Gt.self (g : Gt t) : cmpV .ne (tv t) (tv t) = some false := by
  have q := (cmp_hv (p := tv t) (r := some (t, [])) (t := t) rfl g.okT g.okT).1
  rw [q, eqB_self t 60 (by have := ht_nl t; have := g.leaves; have := g.signs; lia)]; rfl
/-- heard as the tree itself -/
theorem ne_heard (g : Gt t) {x : E} {X : List Nat} {σ' : Store} (hx : ev d (.e x ρ σ) (.v (.str X) σ')) (H : Hears X (tv t)) (h5 : locAt ρ 5 = some (tv t)) (hd : 150 ≤ d) (hd2 : d ≤ 60000) : ∃ τ, ev d (.e (.cmp (.call 42 [x]) .ne (.loc 5)) ρ σ) (.v (.bool false) τ) := by
  obtain ⟨τ, h⟩ := is_heard hx H hd hd2
  exact ⟨τ, is_cmp h (is_loc h5) g.self⟩
theorem eq_none {x : E} {X : List Nat} {σ' : Store} (hx : ev d (.e x ρ σ) (.v (.str X) σ')) (H : Hears X noneV) (hd : 150 ≤ d) (hd2 : d ≤ 60000) : ∃ τ, ev d (.e (.cmp (.call 42 [x]) .eq (.tup [(.str [110, 111, 110, 101])])) ρ σ) (.v (.bool true) τ) := by
  obtain ⟨τ, h⟩ := is_heard hx H hd hd2
  have e : ev d (.e (.tup [(.str [110, 111, 110, 101])]) ρ τ) (.v noneV τ) := by exact is_tup (es_1 ev_e_str) (Nat.le_of_ble_eq_true rfl)
  exact ⟨τ, is_cmp h e (by decide)⟩
noncomputable def lawBody : List S := [.ife (.and [(.cmp (.sub (.loc 2) (.loc 4)) .eq (.str [40])), (.cmp (.call 42 [(.call 43 [(.loc 2), (.loc 4)])]) .eq (.loc 5))]) [.ret (.bool false)] [], .ife (.and [(.cmp (.sub (.loc 2) (.loc 4)) .eq (.str [46])), (.cmp (.sl2 (.loc 2) (.bop .sub (.loc 4) (.int 1)) (.loc 4)) .isin (.tup [(.str []), (.str [32]), (.str [40]), (.str [45]), (.str [126]), (.str [33])])), (.cmp (.call 42 [(.bop .add (.bop .add (.slTo (.loc 2) (.loc 4)) (.str [40, 46, 41])) (.slFrom (.loc 2) (.bop .add (.loc 4) (.int 1))))]) .ne (.loc 5))]) [.ret (.bool false)] []]
theorem in_tup_of {c : Nat} (h : inTup [c] [.str [], .str [32], .str [40], .str [45], .str [126], .str [33]] = some true) : nameSign c = false := by
  by_cases h1 : c = 32
  · subst h1; decide
  by_cases h2 : c = 40
  · subst h2; decide
  by_cases h3 : c = 45
  · subst h3; decide
  by_cases h4 : c = 126
  · subst h4; decide
  by_cases h5 : c = 33
  · subst h5; decide
  have e : ∀ k : Nat, c ≠ k → ([c] == [k]) = false := fun k hk => beq_eq_false_iff_ne.mpr fun q => hk (List.cons.inj q).1
  have z : inTup [c] [.str [], .str [32], .str [40], .str [45], .str [126], .str [33]] = some (([c] == []) || (([c] == [32]) || (([c] == [40]) || (([c] == [45]) || (([c] == [126]) || (([c] == [33]) || false)))))) := rfl
  rw [z, e 32 h1, e 40 h2, e 45 h3, e 126 h4, e 33 h5] at h
  cases h
theorem in_tup_some (x : List Nat) : ∃ b, inTup x [.str [], .str [32], .str [40], .str [45], .str [126], .str [33]] = some b := ⟨_, rfl⟩
theorem law_turn (g : Gt t) {a0 a1 a3 : Option PV} {n c : Nat} (hc : (text t 1)[n]? = some c) (hd : 150 ≤ d) (hd2 : d ≤ 60000) :
    ∃ τ, ev d (.ss lawBody [a0, a1, some (.str (text t 1)), a3, some (.int n), some (tv t), some (nv t)] σ) (.fl .next [a0, a1, some (.str (text t 1)), a3, some (.int n), some (tv t), some (nv t)] τ) := by
  have hz := g.len
  have hn : n < (text t 1).length := (List.getElem?_eq_some_iff.mp hc).1
  have ch : ∀ (e : Nat) (τ : Store), ev d (.e (.cmp (.sub (.loc 2) (.loc 4)) .eq (.str [e])) [a0, a1, some (.str (text t 1)), a3, some (.int n), some (tv t), some (nv t)] τ) (.v (.bool ([c] == [e])) τ) := fun e τ =>
    is_cmp (is_sub (is_loc (v := .str (text t 1)) rfl) (is_loc (v := .int n) rfl) (sub_at hc (by lia))) ev_e_str (cmp_eqs [c] [e])
  have ne : ∀ e : Nat, c ≠ e → ([c] == [e]) = false := fun e h => beq_eq_false_iff_ne.mpr fun q => h (List.cons.inj q).1
  -- a pair left out
  have s1 : Ans d (.e (.and [(.cmp (.sub (.loc 2) (.loc 4)) .eq (.str [40])), (.cmp (.call 42 [(.call 43 [(.loc 2), (.loc 4)])]) .eq (.loc 5))]) [a0, a1, some (.str (text t 1)), a3, some (.int n), some (tv t), some (nv t)] σ) (.bool false) := by
    refine Ans.pre ev_e_and ?_
    by_cases q : c = 40
    · subst q
      refine Ans.pre (bools_t (k := true) (ch 40 σ)) ?_
      obtain ⟨X, p, o1, o2, ⟨r, hr⟩, w1, τ, w2⟩ := hears_without (d := d - 2) (σ := σ) g hc (by lia) (by lia)
      rw [show d - 2 + 2 = d from by lia] at w1 w2
      have e1 : ev d (.e (.call 43 [(.loc 2), (.loc 4)]) [a0, a1, some (.str (text t 1)), a3, some (.int n), some (tv t), some (nv t)] σ) (.v (.str X) σ) := (is_call (es_c (is_loc (v := .str (text t 1)) rfl) (es_1 (is_loc (v := .int n) rfl))) w1)
      refine .mk τ (bools_one (is_cmp ((is_call (es_1 e1) w2)) (is_loc (v := tv t) rfl) ?_))
      rw [(cmp_hv hr o1 g.okT).2, o2]
    · have := ch 40 σ
      rw [ne 40 q] at this
      exact .mk σ (bools_f (k := true) this)
  obtain ⟨τ, s1⟩ := s1
  have s2 : Ans d (.e (.and [(.cmp (.sub (.loc 2) (.loc 4)) .eq (.str [46])), (.cmp (.sl2 (.loc 2) (.bop .sub (.loc 4) (.int 1)) (.loc 4)) .isin (.tup [(.str []), (.str [32]), (.str [40]), (.str [45]), (.str [126]), (.str [33])])), (.cmp (.call 42 [(.bop .add (.bop .add (.slTo (.loc 2) (.loc 4)) (.str [40, 46, 41])) (.slFrom (.loc 2) (.bop .add (.loc 4) (.int 1))))]) .ne (.loc 5))]) [a0, a1, some (.str (text t 1)), a3, some (.int n), some (tv t), some (nv t)] τ) (.bool false) := by
    refine Ans.pre ev_e_and ?_
    by_cases q : c = 46
    · subst q
      refine Ans.pre (bools_t (k := true) (ch 46 τ)) ?_
      have e1 := is_sl2 (d := d) (ρ := [a0, a1, some (.str (text t 1)), a3, some (.int n), some (tv t), some (nv t)]) (σ := τ) (is_loc (i := 2) (v := .str (text t 1)) rfl) (is_bop (is_loc (i := 4) (v := .int n) rfl) (ev_e_int (i := 1)) (bop_subi n 1)) (is_loc (i := 4) (v := .int n) rfl) (by lia)
      have e2 : ev d (.e (.tup [(.str []), (.str [32]), (.str [40]), (.str [45]), (.str [126]), (.str [33])]) [a0, a1, some (.str (text t 1)), a3, some (.int n), some (tv t), some (nv t)] τ) (.v (.tup [.str [], .str [32], .str [40], .str [45], .str [126], .str [33]]) τ) := by
        exact is_tup (es_c ev_e_str (es_c ev_e_str (es_c ev_e_str (es_c ev_e_str (es_c ev_e_str (es_1 ev_e_str)))))) (Nat.le_of_ble_eq_true rfl)
      obtain ⟨b, hb⟩ := in_tup_some (cut (text t 1) (cl ((n : Int) - 1) (text t 1).length) (cl (n : Int) (text t 1).length))
      have e3 := is_cmp (o := .isin) e1 e2 hb
      cases b with
      | false =>
        exact .mk τ (bools_f (k := true) e3)
      | true =>
        refine Ans.pre (bools_t (k := true) e3) ?_
        have hp : ∀ c, 1 ≤ n → (text t 1)[n - 1]? = some c → nameSign c = false := fun c h1 h2 => by
          obtain ⟨m, rfl⟩ : ∃ m, n = m + 1 := ⟨n - 1, by lia⟩
          rw [show m + 1 - 1 = m from by lia] at h2
          have hm : m < (text t 1).length := by lia
          have : cut (text t 1) (cl (((m + 1 : Nat) : Int) - 1) (text t 1).length) (cl ((m + 1 : Nat) : Int) (text t 1).length) = [c] := by
            rw [show (((m + 1 : Nat) : Int) - 1) = (m : Int) from by lia]
            refine cut_word (n := m) (w := [c]) (rest := (text t 1).drop (m + 1)) ?_ (by lia)
            rw [List.drop_eq_getElem_cons hm]
            rw [List.getElem?_eq_getElem hm] at h2
            rw [Option.some.inj h2]; rfl
          rw [this] at hb
          exact in_tup_of hb
        obtain ⟨P, S, ht, hP, H⟩ := hears_dot g hc hp
        subst hP
        have f1 : (text t 1).take (cl (P.length : Int) (text t 1).length) = P := by rw [cl_in (by lia), ht]; simp
        have f2 : (text t 1).drop (cl ((P.length : Int) + 1) (text t 1).length) = S := by
          rw [show ((P.length : Int) + 1) = ((P.length + 1 : Nat) : Int) from by push_cast; rfl, cl_in (by lia), ht, show P ++ 46 :: S = (P ++ [46]) ++ S from by simp, List.drop_left' (by simp)]
        have hl : P.length + (1 + S.length) = (text t 1).length := by rw [ht]; simp; lia
        have x1 := is_slTo (d := d) (ρ := [a0, a1, some (.str (text t 1)), a3, some (.int P.length), some (tv t), some (nv t)]) (σ := τ) (is_loc (i := 2) (v := .str (text t 1)) rfl) (is_loc (i := 4) (v := .int P.length) rfl) (by lia)
        have x2 := is_slFrom (d := d) (ρ := [a0, a1, some (.str (text t 1)), a3, some (.int P.length), some (tv t), some (nv t)]) (σ := τ) (is_loc (i := 2) (v := .str (text t 1)) rfl) (is_bop (is_loc (i := 4) (v := .int P.length) rfl) (ev_e_int (i := 1)) (bop_addi P.length 1)) (by lia)
        rw [f1] at x1
        rw [f2] at x2
        obtain ⟨τ', h⟩ := ne_heard g (is_adds (is_adds x1 ev_e_str (by simp; lia)) x2 (by simp; lia)) H rfl hd hd2
        exact .mk τ' (bools_one h)
    · have := ch 46 τ
      rw [ne 46 q] at this
      exact .mk τ (bools_f (k := true) this)
  obtain ⟨τ', s2⟩ := s2
  exact ⟨τ', ss_skip s1 (ss_skip s2 ev_ss_nil)⟩
theorem law_loop (g : Gt t) {a0 a1 a3 : Option PV} (hd : 150 ≤ d) (hd2 : d ≤ 60000) : ∀ (m n : Nat) (a4 : Option PV) (σ : Store), n + m = (text t 1).length →
    ∃ b4 τ, ev d (.fr 4 (.vals (seqV n m)) lawBody [a0, a1, some (.str (text t 1)), a3, a4, some (tv t), some (nv t)] σ) (.fl .next [a0, a1, some (.str (text t 1)), a3, b4, some (tv t), some (nv t)] τ)
  | 0, n, a4, σ, h => ⟨a4, σ, fr_nil⟩
  | m + 1, n, a4, σ, h => by
    obtain ⟨c, hc⟩ : ∃ c, (text t 1)[n]? = some c := ⟨(text t 1)[n]'(by lia), List.getElem?_eq_getElem (by lia)⟩
    obtain ⟨τ, h1⟩ := law_turn (σ := σ) g (a0 := a0) (a1 := a1) (a3 := a3) hc hd hd2
    obtain ⟨b4, τ', h2⟩ := law_loop g hd hd2 m (n + 1) (some (.int n)) τ (by lia)
    refine ⟨b4, τ', ?_⟩
    show ev d (.fr 4 (.vals (.int n :: seqV (n + 1) m)) lawBody _ σ) _
    refine fr_cons h1 ?_; exact h2
theorem text_one (h : Val t) : text t 1 = text t 0 := by
  cases t with
  | bin s l r =>
    have := h.1
    show (if levelOf s < 1 then _ else _) = (if levelOf s < 0 then _ else _)
    rw [if_neg (by lia), if_neg (by lia)]
  | _ => rfl
/-- behind the tree and its text: all that is asked holds -/
noncomputable def lawRest : List S := [
    .ife (.or [(.cmp (.meth (.loc 6) 25 []) .ne (.loc 5)), (.cmp (.call 36 [(.loc 6)]) .ne (.loc 2)), (.cmp (.call 42 [(.loc 2)]) .ne (.loc 5))]) [.ret (.bool false)] [],
    .asg 3 (.bop .add (.spaced 2) (.str [32, 35, 32, 40, 114, 101, 115, 116])),
    .ife (.or [(.cmp (.call 42 [(.loc 3)]) .ne (.loc 5)), (.cmp (.call 42 [(.bop .add (.bop .add (.str [40]) (.loc 2)) (.str [41]))]) .ne (.loc 5))]) [.ret (.bool false)] [],
    .forr 4 (.bi .range [(.bi .len [(.loc 2)])]) lawBody,
    .ret (.and [(.cmp (.call 42 [(.bop .add (.loc 2) (.str [32, 41]))]) .eq (.tup [(.str [110, 111, 110, 101])])), (.cmp (.call 42 [(.bop .add (.str [40]) (.loc 2))]) .eq (.tup [(.str [110, 111, 110, 101])])), (.cmp (.call 42 [(.bop .add (.loc 2) (.str [32, 42]))]) .eq (.tup [(.str [110, 111, 110, 101])]))])]
theorem law_rest (g : Gt t) {a0 a1 : Option PV} (hd : 150 ≤ d) (hd2 : d ≤ 60000) : Yes d (.ss lawRest [a0, a1, some (.str (text t 1)), none, none, some (tv t), some (nv t)] σ) := by
  have hz := g.len
  have hh : ht t ≤ 10 := by have := ht_nl t; have := g.leaves; have := g.signs; lia
  obtain ⟨w1, w2, w3⟩ := val_wd t g.val
  have hz0 : (text t 0).length ≤ 60000 := by rw [← text_one g.val]; lia
  -- told, shown, heard
  have s1 : Ans d (.e (.or [(.cmp (.meth (.loc 6) 25 []) .ne (.loc 5)), (.cmp (.call 36 [(.loc 6)]) .ne (.loc 2)), (.cmp (.call 42 [(.loc 2)]) .ne (.loc 5))]) [a0, a1, some (.str (text t 1)), none, none, some (tv t), some (nv t)] σ) (.bool false) := by
    refine Ans.pre ev_e_or ?_
    obtain ⟨τ1, _, h1⟩ := (told_all 10 t hh (by decide)).1 d σ (by lia)
    have e1 : ev d (.e (.cmp (.meth (.loc 6) 25 []) .ne (.loc 5)) [a0, a1, some (.str (text t 1)), none, none, some (tv t), some (nv t)] σ) (.v (.bool false) τ1) :=
      is_cmp ((is_meth (is_loc (v := nv t) rfl) (nv_told t) ev_es_nil h1)) (is_loc (v := tv t) rfl) g.self
    refine Ans.pre (bools_t (k := false) e1) ?_
    obtain ⟨τ2, _, h2⟩ := (show_all 10 t hh (by decide) w2 hz0).1 d τ1 (by lia)
    have e2 : ev d (.e (.cmp (.call 36 [(.loc 6)]) .ne (.loc 2)) [a0, a1, some (.str (text t 1)), none, none, some (tv t), some (nv t)] τ1) (.v (.bool false) τ2) := by
      refine is_cmp ((is_call (es_1 (is_loc (v := nv t) rfl)) h2)) (is_loc (v := .str (text t 1)) rfl) ?_
      rw [text_one g.val, cmp_nes, beq_self_eq_true]; rfl
    refine Ans.pre (bools_t (k := false) e2) ?_
    obtain ⟨τ3, h3⟩ := ne_heard (ρ := [a0, a1, some (.str (text t 1)), none, none, some (tv t), some (nv t)]) (σ := τ2) g (is_loc (i := 2) (v := .str (text t 1)) rfl) (hears_text g) rfl hd hd2
    exact .mk τ3 (bools_one h3)
  obtain ⟨τ, s1⟩ := s1
  refine Yes.pre (ss_skip s1) ?_
  have sp3 : ev d (.e (.bop .add (.spaced 2) (.str [32, 35, 32, 40, 114, 101, 115, 116])) [a0, a1, some (.str (text t 1)), none, none, some (tv t), some (nv t)] τ) (.v (.str ([32, 32] ++ rep3 (text t 1) ++ [32, 35, 32, 40, 114, 101, 115, 116])) τ) := by
    have e : ev d (.e (.spaced 2) [a0, a1, some (.str (text t 1)), none, none, some (tv t), some (nv t)] τ) (.v (.str ([32, 32] ++ rep3 (text t 1))) τ) := by
      exact is_spaced (t := text t 1) rfl (by lia)
    refine is_adds e ev_e_str ?_
    have := rep3_len (text t 1)
    simp; lia
  refine Yes.pre (ss_next (do_asg sp3)) ?_
  show Yes d (.ss _ [a0, a1, some (.str (text t 1)), some (.str ([32, 32] ++ rep3 (text t 1) ++ [32, 35, 32, 40, 114, 101, 115, 116])), none, some (tv t), some (nv t)] _)
  generalize hX : ([32, 32] ++ rep3 (text t 1) ++ [32, 35, 32, 40, 114, 101, 115, 116] : List Nat) = X
  have HX : Hears X (tv t) := by rw [← hX]; exact hears_spaced g
  have s2 : Ans d (.e (.or [(.cmp (.call 42 [(.loc 3)]) .ne (.loc 5)), (.cmp (.call 42 [(.bop .add (.bop .add (.str [40]) (.loc 2)) (.str [41]))]) .ne (.loc 5))]) [a0, a1, some (.str (text t 1)), some (.str X), none, some (tv t), some (nv t)] τ) (.bool false) := by
    refine Ans.pre ev_e_or ?_
    obtain ⟨τ1, h1⟩ := ne_heard (ρ := [a0, a1, some (.str (text t 1)), some (.str X), none, some (tv t), some (nv t)]) (σ := τ) g (is_loc (i := 3) (v := .str X) rfl) HX rfl hd hd2
    refine Ans.pre (bools_t (k := false) h1) ?_
    obtain ⟨τ2, h2⟩ := ne_heard (ρ := [a0, a1, some (.str (text t 1)), some (.str X), none, some (tv t), some (nv t)]) (σ := τ1) g (is_adds (is_adds ev_e_str (is_loc (i := 2) (v := .str (text t 1)) rfl) (by simp; lia)) ev_e_str (by simp; lia)) (hears_pair g) rfl hd hd2
    exact .mk τ2 (bools_one h2)
  obtain ⟨τ', s2⟩ := s2
  refine Yes.pre (ss_skip s2) ?_
  have er : ev d (.e (.bi .range [(.bi .len [(.loc 2)])]) [a0, a1, some (.str (text t 1)), some (.str X), none, some (tv t), some (nv t)] τ') (.v (.rng 0 (text t 1).length) τ') := by
    refine is_bi (es_1 (is_bi (es_1 (is_loc (v := .str (text t 1)) rfl)) (bi_len _ (by lia)))) ?_
    have : (0 : Int) ≤ ((text t 1).length : Int) ∧ ((text t 1).length : Int) < 65536 := by lia
    exact bi_range1 this
  have es : srcOf τ' (.rng 0 (text t 1).length) = some (.vals (seqV 0 (text t 1).length)) := by
    rw [src_rng ⟨by lia, by lia, by lia, by lia⟩]
    have := rng_seq (text t 1).length 0 (text t 1).length (by lia)
    rw [← this]; rfl
  obtain ⟨b4, τ2, hl⟩ := law_loop g (a0 := a0) (a1 := a1) (a3 := some (.str X)) hd hd2 (text t 1).length 0 none τ' (by lia)
  refine Yes.pre (ss_next (do_forr er es hl)) ?_
  obtain ⟨τ3, h1⟩ := eq_none (ρ := [a0, a1, some (.str (text t 1)), some (.str X), b4, some (tv t), some (nv t)]) (σ := τ2) (is_adds (is_loc (i := 2) (v := .str (text t 1)) rfl) (ev_e_str (l := [32, 41])) (by simp; lia)) (hears_behind g) hd hd2
  obtain ⟨τ4, h2⟩ := eq_none (ρ := [a0, a1, some (.str (text t 1)), some (.str X), b4, some (tv t), some (nv t)]) (σ := τ3) (is_adds (ev_e_str (l := [40])) (is_loc (i := 2) (v := .str (text t 1)) rfl) (by simp; lia)) (hears_ahead g) hd hd2
  obtain ⟨τ5, h3⟩ := eq_none (ρ := [a0, a1, some (.str (text t 1)), some (.str X), b4, some (tv t), some (nv t)]) (σ := τ4) (is_adds (is_loc (i := 2) (v := .str (text t 1)) rfl) (ev_e_str (l := [32, 42])) (by simp; lia)) (hears_star g) hd hd2
  refine .mk _ τ5 (ss_ret1 ?_)
  exact ev_e_and (bools_t (k := true) h1 (bools_t (k := true) h2 (bools_one h3)))
end
end Mine
end
section
namespace Mine
variable {d : Nat} {ρ : Loc} {σ : Store}
/-! the law, from the script on -/
theorem ints_of_pl : ∀ l : List Int, intsOf (l.map .int) = some l
  | [] => rfl
  | i :: l => by show (intsOf (l.map .int)).map (i :: ·) = _; rw [ints_of_pl l]; rfl
theorem is_cut {l : List Int} (hl : l.length ≤ 63) (h : locAt ρ 0 = some (.lis (l.map .int))) : ev d (.e (.slTo (.loc 0) (.int 50)) ρ σ) (.v (.ref σ.length) (σ ++ [.lst ((l.take 50).map .int)])) := by
  rw [List.map_take]
  exact is_slToL (is_loc h) ev_e_int rfl (by rw [List.length_map]; lia) (by decide)
theorem lst_last (σ : Store) (o : MO) : (σ ++ [o])[σ.length]? = some o := by
  rw [List.getElem?_append_right (Nat.le_refl _), Nat.sub_self]; rfl
theorem law_hand {l : List Int} (hl : l.length ≤ 63) (h : locAt ρ 0 = some (.lis (l.map .int))) : ∃ i st σ', σ'[i]? = some (hnd (l.take 50) 0 st 0) ∧
    ev d (.e (.lst [(.intcomp (.slTo (.loc 0) (.int 50))), (.int 0), (.bop .add (.int 11) (.bop .mod (.bi .sum [(.slTo (.loc 0) (.int 50))]) (.int 65521))), (.int 0)]) ρ σ) (.v (.ref i) σ') := by
  have e1 : ev d (.e (.intcomp (.slTo (.loc 0) (.int 50))) ρ σ) (.v (.lis ((l.take 50).map .int)) (σ ++ [.lst ((l.take 50).map .int)])) := by
    have h2 : ((l.take 50).map PV.int).length ≤ 65536 := by rw [List.length_map, List.length_take]; lia
    exact is_intcomp (is_cut hl h) (by simp only [lstAt, lst_last]) h2 (ints_of_pl _)
  generalize hσ : σ ++ [.lst ((l.take 50).map .int)] = σ1 at e1
  have e2 : ev d (.e (.bi .sum [(.slTo (.loc 0) (.int 50))]) ρ σ1) (.v (.int (l.take 50).sum) (σ1 ++ [.lst ((l.take 50).map .int)])) := by
    refine is_bi (es_1 (is_cut hl h)) ?_
    show (lstAt (σ1 ++ [.lst ((l.take 50).map .int)]) (.ref σ1.length)).bind _ = _
    simp only [lstAt, lst_last, Option.bind_some, ints_of_pl]; rfl
  have e3 := is_bop (o := .add) (ev_e_int (d := d) (ρ := ρ) (σ := σ1) (i := 11)) (is_bop (o := .mod) e2 (ev_e_int (i := 65521)) (bop_mod (by decide))) (bop_addi _ _)
  refine ⟨_, 11 + (l.take 50).sum % 65521, _, lst_last (σ1 ++ [.lst ((l.take 50).map .int)]) _, ?_⟩
  exact is_lst (es_c e1 (es_c ev_e_int (es_c e3 (es_1 ev_e_int)))) (Nat.le_of_ble_eq_true rfl)
theorem law_true {l : List Int} (hl : l.length ≤ 63) : ∃ σ', ev 230 (.call 44 [.lis (l.map .int)] []) (.v (.bool true) σ') := by
  obtain ⟨d, hd0⟩ : ∃ d, d = 229 := ⟨229, rfl⟩
  have hd : 150 ≤ d := by lia
  have hd2 : d ≤ 60000 := by lia
  have go : Yes d (.ss b44 [some (.lis (l.map .int)), none, none, none, none, none, none] []) := by
    obtain ⟨i, st, σ1, h1, e1⟩ := law_hand (d := d) (ρ := [some (.lis (l.map .int)), none, none, none, none, none, none]) (σ := []) hl rfl
    refine Yes.pre (ss_next (do_asg e1)) ?_
    show Yes d (.ss _ [some (.lis (l.map .int)), some (.ref i), none, none, none, none, none] _)
    have hx : (l.take 50).length ≤ 50 := by rw [List.length_take]; lia
    obtain ⟨v, s1, v0, v1, e2⟩ := is_next (d := d) (ρ := [some (.lis (l.map .int)), some (.ref i), none, none, none, none, none]) (x := .loc 1) (y := .int 7) (is_loc (v := .ref i) rfl) ev_e_int h1 (Int.le_refl 0) hx (by decide) (by lia)
    have h2 : (σ1.set i (hnd (l.take 50) (0 + 1) s1 0))[i]? = some (hnd (l.take 50) (0 + 1) s1 ((0 : Nat) : Int)) := get_set ⟨_, h1⟩
    obtain ⟨n, hn⟩ : ∃ n : Nat, (1 + v : Int) = n := ⟨(1 + v).toNat, by lia⟩
    obtain ⟨t, a', s', u', p1, p2, p3, p4, p5, e3⟩ := tree_ok 10 n 0 d _ i (l.take 50) (0 + 1) s1 (by lia) (by lia) (by lia) (by lia) (by lia) h2 (by decide) hx
    have e4 := is_bop (o := .add) (ev_e_int (d := d) (i := 1)) e2 (bop_addi 1 v)
    rw [hn] at e4
    refine Yes.pre (ss_next (do_asg2 (i := 5) (j := 6) ((is_call (es_c (is_loc (v := .ref i) rfl) (es_1 e4)) e3)))) ?_
    show Yes d (.ss _ [some (.lis (l.map .int)), some (.ref i), none, none, none, some (tv t), some (nv t)] _)
    have g : Gt t := ⟨p2, by lia, by lia⟩
    obtain ⟨w1, w2, w3⟩ := val_wd t p2
    have e5 := ev_lawText t 1 d ((σ1.set i (hnd (l.take 50) (0 + 1) s1 0)).set i (hnd (l.take 50) a' s' u')) (by have := ht_nl t; lia) w2 w3 (by have := g.len; lia) (by decide)
    refine Yes.pre (ss_next (do_asg (i := 2) ((is_call (es_c (is_loc (v := tv t) rfl) (es_1 ev_e_int)) e5)))) ?_
    exact law_rest g hd hd2
  obtain ⟨ρ', τ, h⟩ := go
  subst hd0
  exact ⟨τ, do_call (fn := ⟨1, 7, b44⟩) rfl rfl h⟩
end Mine
end
set_option maxRecDepth 100000 in
set_option maxHeartbeats 8000000 in
theorem PySem.Challenge.cw_pb0427_01_holds : PySem.Challenge.rw_pb0427_01.Holds := by
  exact Mine.holds_of fun _ h => Mine.law_true h
